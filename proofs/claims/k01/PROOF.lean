import PyProof.Rows.All
import Wide.All
import OpenK.AllK
import Wide.FinOn
import HandS.ForMost
import HandS.Exc
import HandS.TryOnly
import HandS.ExcOwn
import HandS.WordsExc
import HandS.IsInst
import HandS.ExcIs
import HandS.Deep
import HandS.Style
import HandS.More
import HandS.Walk
import HandS.Wide
import HandS.StrMore
import HandS.EndBits
import PySem.Challenge.RW_headsgrow_k01_whole_worths
set_option Elab.async false
set_option linter.all false
set_option maxRecDepth 100000
set_option maxHeartbeats 4000000
/-! Plain mathematics: trees, their order, told trees. -/
namespace Hg

inductive Tt where
  | mk (bs : List Tt)

def Tt.bs : Tt → List Tt
  | .mk l => l

theorem Tt.ind {P : Tt → Prop} (h : ∀ l, (∀ x, x ∈ l → P x) → P (.mk l)) : ∀ t, P t
  | .mk l => h l fun x hx => Tt.ind h x
termination_by t => sizeOf t
decreasing_by
  have := List.sizeOf_lt_of_mem hx
  simp only [Tt.mk.sizeOf_spec]
  omega

mutual
def cmp : Tt → Tt → Int
  | .mk a, .mk b => cmpL a b
def cmpL : List Tt → List Tt → Int
  | [], b => - (b.length : Int)
  | x :: a, [] => ((x :: a).length : Int)
  | x :: a, y :: b => if cmp x y ≠ 0 then cmp x y else cmpL a b
end

mutual
def knots : Tt → Nat
  | .mk l => 1 + knotsL l
def knotsL : List Tt → Nat
  | [] => 0
  | x :: l => knots x + knotsL l
end
mutual
def depth : Tt → Nat
  | .mk l => depthL l
def depthL : List Tt → Nat
  | [] => 0
  | x :: l => max (depth x + 1) (depthL l)
end

theorem cmp_mk (a b : List Tt) : cmp (.mk a) (.mk b) = cmpL a b := by rw [cmp]
theorem cmpL_nil_nil : cmpL [] [] = 0 := by simp [cmpL]
theorem cmpL_nil (b : List Tt) : cmpL [] b = - (b.length : Int) := by rw [cmpL]
theorem cmpL_cons_nil (x : Tt) (a : List Tt) : cmpL (x :: a) [] = ((x :: a).length : Int) := by rw [cmpL]
theorem cmpL_cons (x y : Tt) (a b : List Tt) : cmpL (x :: a) (y :: b) = if cmp x y ≠ 0 then cmp x y else cmpL a b := by rw [cmpL]
theorem cmpL_nil_r : ∀ a : List Tt, cmpL a [] = (a.length : Int)
  | [] => by simp [cmpL]
  | x :: a => cmpL_cons_nil x a

theorem cmpL_self_of : ∀ (l : List Tt), (∀ x, x ∈ l → cmp x x = 0) → cmpL l l = 0
  | [], _ => cmpL_nil_nil
  | x :: l, h => by
    rw [cmpL_cons, h x List.mem_cons_self, if_neg (by simp)]
    exact cmpL_self_of l fun y hy => h y (List.mem_cons_of_mem _ hy)
theorem cmp_self (t : Tt) : cmp t t = 0 := by
  induction t using Tt.ind with
  | h l ih => rw [cmp_mk]; exact cmpL_self_of l ih

theorem cmpL_anti_of : ∀ (a b : List Tt), (∀ x, x ∈ a → ∀ y, cmp x y = - cmp y x) → cmpL a b = - cmpL b a
  | [], b, _ => by rw [cmpL_nil, cmpL_nil_r]
  | x :: a, [], _ => by rw [cmpL_nil_r, cmpL_nil]; omega
  | x :: a, y :: b, h => by
    have e := h x List.mem_cons_self y
    have ih := cmpL_anti_of a b fun z hz => h z (List.mem_cons_of_mem _ hz)
    rw [cmpL_cons, cmpL_cons]
    by_cases c : cmp x y = 0
    · rw [if_neg (by omega), if_neg (by omega)]; exact ih
    · rw [if_pos c, if_pos (by omega)]; exact e
theorem cmp_anti (x y : Tt) : cmp x y = - cmp y x := by
  induction x using Tt.ind generalizing y with
  | h l ih =>
    cases y with
    | mk b => rw [cmp_mk, cmp_mk]; exact cmpL_anti_of l b fun x hx y => ih x hx y

theorem cmpL_eq_of : ∀ (a b : List Tt), (∀ x, x ∈ a → ∀ y, cmp x y = 0 → x = y) → cmpL a b = 0 → a = b
  | [], [], _, _ => rfl
  | [], y :: b, _, e => by rw [cmpL_nil, List.length_cons] at e; omega
  | x :: a, [], _, e => by rw [cmpL_nil_r, List.length_cons] at e; omega
  | x :: a, y :: b, h, e => by
    rw [cmpL_cons] at e
    by_cases c : cmp x y = 0
    · rw [if_neg (by simp [c])] at e
      rw [h x List.mem_cons_self y c, cmpL_eq_of a b (fun z hz => h z (List.mem_cons_of_mem _ hz)) e]
    · rw [if_pos c] at e; exact absurd e c
theorem cmp_eq {x y : Tt} (e : cmp x y = 0) : x = y := by
  induction x using Tt.ind generalizing y with
  | h l ih =>
    cases y with
    | mk b =>
      rw [cmp_mk] at e
      rw [cmpL_eq_of l b (fun x hx y e => ih x hx e) e]
theorem cmp_zero {x y : Tt} : cmp x y = 0 ↔ x = y := ⟨cmp_eq, fun e => by rw [e]; exact cmp_self y⟩

/-- strictly less, transitively -/
theorem cmpL_trans_of : ∀ (a b c : List Tt), (∀ x, x ∈ a → ∀ y z, cmp x y < 0 → cmp y z < 0 → cmp x z < 0) → cmpL a b < 0 → cmpL b c < 0 → cmpL a c < 0
  | a, [], c, _, h1, _ => by rw [cmpL_nil_r] at h1; omega
  | a, y :: b, [], _, _, h2 => by rw [cmpL_nil_r] at h2; omega
  | [], y :: b, z :: c, _, _, _ => by rw [cmpL_nil, List.length_cons]; omega
  | x :: a, y :: b, z :: c, h, h1, h2 => by
    rw [cmpL_cons] at h1 h2 ⊢
    by_cases c1 : cmp x y = 0
    · have e := cmp_eq c1
      subst e
      rw [if_neg (by simp [c1])] at h1
      by_cases c2 : cmp x z = 0
      · rw [if_neg (by simp [c2])] at h2 ⊢
        exact cmpL_trans_of a b c (fun w hw => h w (List.mem_cons_of_mem _ hw)) h1 h2
      · rw [if_pos c2] at h2 ⊢; exact h2
    · rw [if_pos c1] at h1
      by_cases c2 : cmp y z = 0
      · have e := cmp_eq c2
        subst e
        rw [if_pos c1]; exact h1
      · rw [if_pos c2] at h2
        have := h x List.mem_cons_self y z h1 h2
        rw [if_pos (by omega)]; exact this
theorem cmp_lt_trans {x y z : Tt} (h1 : cmp x y < 0) (h2 : cmp y z < 0) : cmp x z < 0 := by
  induction x using Tt.ind generalizing y z with
  | h l ih =>
    cases y with
    | mk b =>
      cases z with
      | mk c =>
        rw [cmp_mk] at *
        exact cmpL_trans_of l b c (fun x hx y z a b => ih x hx a b) h1 h2
/-- x is worth at least y -/
def ge (x y : Tt) : Prop := 0 ≤ cmp x y
theorem ge_refl (x : Tt) : ge x x := by unfold ge; rw [cmp_self]; exact Int.le_refl 0
theorem ge_of_lt {x y : Tt} (h : cmp y x < 0) : ge x y := by unfold ge; rw [cmp_anti]; omega
theorem ge_total {x y : Tt} (h : ¬ ge x y) : cmp x y < 0 := by unfold ge at h; omega
theorem ge_cases {x y : Tt} (h : ge x y) : x = y ∨ cmp y x < 0 := by
  unfold ge at h
  by_cases c : cmp x y = 0
  · exact .inl (cmp_eq c)
  · right; rw [cmp_anti]; omega
theorem ge_trans {x y z : Tt} (h1 : ge x y) (h2 : ge y z) : ge x z := by
  rcases ge_cases h1 with e | l1
  · rw [e]; exact h2
  · rcases ge_cases h2 with e | l2
    · rw [← e]; exact h1
    · exact ge_of_lt (cmp_lt_trans l2 l1)
theorem ge_anti {x y : Tt} (h1 : ge x y) (h2 : ge y x) : x = y := by
  unfold ge at *
  rw [cmp_anti] at h2
  exact cmp_eq (by omega)
instance (x y : Tt) : Decidable (ge x y) := inferInstanceAs (Decidable (0 ≤ cmp x y))

/-! ### insertion, told -/
def ins (x : Tt) : List Tt → List Tt
  | [] => [x]
  | y :: l => if 0 ≤ cmp y x then y :: ins x l else x :: y :: l
mutual
def told : Tt → Tt
  | .mk l => .mk (toldL [] l)
def toldL (acc : List Tt) : List Tt → List Tt
  | [] => acc
  | b :: l => toldL (ins (told b) acc) l
end
theorem told_mk (l : List Tt) : told (.mk l) = .mk (toldL [] l) := by rw [told]
theorem toldL_nil (acc : List Tt) : toldL acc [] = acc := by rw [toldL]
theorem toldL_cons (acc : List Tt) (b : Tt) (l : List Tt) : toldL acc (b :: l) = toldL (ins (told b) acc) l := by rw [toldL]
theorem toldL_eq : ∀ (l acc : List Tt), toldL acc l = (l.map told).foldl (fun a x => ins x a) acc
  | [], acc => by rw [toldL_nil]; rfl
  | b :: l, acc => by rw [toldL_cons, toldL_eq l]; rfl
theorem toldL_append : ∀ (l m acc : List Tt), toldL acc (l ++ m) = toldL (toldL acc l) m
  | [], m, acc => by rw [toldL_nil]; rfl
  | b :: l, m, acc => by rw [List.cons_append, toldL_cons, toldL_cons, toldL_append l m]

/-- in falling turn -/
def Sd (l : List Tt) : Prop := l.Pairwise ge
theorem ins_perm (x : Tt) : ∀ l, (ins x l).Perm (x :: l)
  | [] => List.Perm.refl _
  | y :: l => by
    unfold ins
    split
    · exact ((ins_perm x l).cons y).trans (List.Perm.swap x y l)
    · exact List.Perm.refl _
theorem ins_sd (x : Tt) : ∀ l, Sd l → Sd (ins x l)
  | [], _ => by unfold Sd ins; exact List.pairwise_singleton _ _
  | y :: l, h => by
    obtain ⟨h1, h2⟩ := List.pairwise_cons.mp h
    unfold ins
    split
    · rename_i c
      refine List.pairwise_cons.mpr ⟨fun z hz => ?_, ins_sd x l h2⟩
      rcases List.mem_cons.mp ((ins_perm x l).mem_iff.mp hz) with e | hz
      · rw [e]; exact c
      · exact h1 z hz
    · rename_i c
      have g : ge x y := ge_of_lt (by omega)
      refine List.pairwise_cons.mpr ⟨fun z hz => ?_, h⟩
      rcases List.mem_cons.mp hz with e | hz
      · rw [e]; exact g
      · exact ge_trans g (h1 z hz)
theorem foldins_perm : ∀ (l acc : List Tt), (l.foldl (fun a x => ins x a) acc).Perm (acc ++ l)
  | [], acc => by simp
  | x :: l, acc => by
    rw [List.foldl_cons]
    refine (foldins_perm l _).trans ?_
    refine ((ins_perm x acc).append_right l).trans ?_
    exact (List.perm_middle (l₁ := acc) (a := x) (l₂ := l)).symm
theorem foldins_sd : ∀ (l acc : List Tt), Sd acc → Sd (l.foldl (fun a x => ins x a) acc)
  | [], _, h => h
  | x :: l, acc, h => by rw [List.foldl_cons]; exact foldins_sd l _ (ins_sd x acc h)
theorem toldL_perm (l acc : List Tt) : (toldL acc l).Perm (acc ++ l.map told) := by rw [toldL_eq]; exact foldins_perm _ _
theorem toldL_sd (l acc : List Tt) (h : Sd acc) : Sd (toldL acc l) := by rw [toldL_eq]; exact foldins_sd _ _ h
/-- two lists in falling turn of the same things are one -/
theorem sd_unique : ∀ (l m : List Tt), Sd l → Sd m → l.Perm m → l = m
  | [], m, _, _, p => (List.Perm.nil_eq p)
  | x :: l, [], _, _, p => absurd p.symm.nil_eq (by simp)
  | x :: l, y :: m, hl, hm, p => by
    obtain ⟨l1, l2⟩ := List.pairwise_cons.mp hl
    obtain ⟨m1, m2⟩ := List.pairwise_cons.mp hm
    have e : x = y := by
      have hx : x ∈ y :: m := p.mem_iff.mp List.mem_cons_self
      have hy : y ∈ x :: l := p.mem_iff.mpr List.mem_cons_self
      rcases List.mem_cons.mp hx with e | hx
      · exact e
      · rcases List.mem_cons.mp hy with e | hy
        · exact e.symm
        · exact ge_anti (l1 y hy) (m1 x hx)
    subst e
    rw [sd_unique l m l2 m2 (List.Perm.cons_inv p)]

/-- two told lists joined, as the program does it -/
def merge : List Tt → List Tt → List Tt
  | [], m => m
  | x :: l, [] => x :: l
  | x :: l, y :: m => if 0 ≤ cmp x y then x :: merge l (y :: m) else y :: merge (x :: l) m
termination_by l m => l.length + m.length
theorem merge_nil_r (l : List Tt) : merge l [] = l := by cases l <;> simp [merge]
theorem merge_perm (l m : List Tt) : (merge l m).Perm (l ++ m) := by
  fun_induction merge l m with
  | case1 m => exact List.Perm.refl _
  | case2 x l => simp
  | case3 x l y m h ih => exact ih.cons x
  | case4 x l y m h ih =>
    refine (ih.cons y).trans ?_
    exact (List.perm_middle (l₁ := x :: l) (a := y) (l₂ := m)).symm
theorem merge_sd (l m : List Tt) (hl : Sd l) (hm : Sd m) : Sd (merge l m) := by
  fun_induction merge l m with
  | case1 m => exact hm
  | case2 x l => exact hl
  | case3 x l y m h ih =>
    obtain ⟨l1, l2⟩ := List.pairwise_cons.mp hl
    refine List.pairwise_cons.mpr ⟨fun z hz => ?_, ih l2 hm⟩
    rcases List.mem_append.mp ((merge_perm l (y :: m)).mem_iff.mp hz) with hz | hz
    · exact l1 z hz
    · rcases List.mem_cons.mp hz with e | hz
      · rw [e]; exact h
      · exact ge_trans h ((List.pairwise_cons.mp hm).1 z hz)
  | case4 x l y m h ih =>
    obtain ⟨m1, m2⟩ := List.pairwise_cons.mp hm
    have g : ge y x := ge_of_lt (by omega)
    refine List.pairwise_cons.mpr ⟨fun z hz => ?_, ih hl m2⟩
    rcases List.mem_append.mp ((merge_perm (x :: l) m).mem_iff.mp hz) with hz | hz
    · rcases List.mem_cons.mp hz with e | hz
      · rw [e]; exact g
      · exact ge_trans g ((List.pairwise_cons.mp hl).1 z hz)
    · exact m1 z hz
theorem merge_one (x : Tt) (l : List Tt) : merge l [x] = ins x l := by
  induction l with
  | nil => simp [merge, ins]
  | cons y l ih =>
    unfold merge ins
    split
    · rw [ih]
    · rw [merge_nil_r]
/-- together -/
theorem merge_told (l m : List Tt) : merge (toldL [] l) (toldL [] m) = toldL [] (l ++ m) := by
  have nl : Sd [] := List.Pairwise.nil
  refine sd_unique _ _ (merge_sd _ _ (toldL_sd l [] nl) (toldL_sd m [] nl)) (toldL_sd _ [] nl) ?_
  refine (merge_perm _ _).trans ?_
  refine ((toldL_perm l []).append (toldL_perm m [])).trans ?_
  refine List.Perm.trans ?_ (toldL_perm (l ++ m) []).symm
  simp
end Hg
/-! Trees in the heap: read (TreeAt), owned (Own), made anew (New), grown (Grow). -/
namespace Hg
open PySem L2

mutual
def TreeAt (H : Hp) : V → Tt → Prop
  | v, .mk bs => ∃ a vs, v = .ref a ∧ H a = some (.lst vs) ∧ TreesAt H vs bs
def TreesAt (H : Hp) : List V → List Tt → Prop
  | vs, [] => vs = []
  | vs, b :: bs => ∃ v vs', vs = v :: vs' ∧ TreeAt H v b ∧ TreesAt H vs' bs
end
mutual
def Own (H : Hp) : V → Tt → List Addr → Prop
  | v, .mk bs, as => ∃ a vs as', v = .ref a ∧ as = a :: as' ∧ H a = some (.lst vs) ∧ Owns H vs bs as'
def Owns (H : Hp) : List V → List Tt → List Addr → Prop
  | vs, [], as => vs = [] ∧ as = []
  | vs, b :: bs, as => ∃ v vs' a1 a2, vs = v :: vs' ∧ as = a1 ++ a2 ∧ Own H v b a1 ∧ Owns H vs' bs a2
end
theorem treeAt_mk {H : Hp} {v : V} {bs : List Tt} : TreeAt H v (.mk bs) = ∃ a vs, v = .ref a ∧ H a = some (.lst vs) ∧ TreesAt H vs bs := by rw [TreeAt]
theorem treesAt_nil {H : Hp} {vs : List V} : TreesAt H vs [] = (vs = []) := by rw [TreesAt]
theorem treesAt_cons {H : Hp} {vs : List V} {b : Tt} {bs : List Tt} : TreesAt H vs (b :: bs) = ∃ v vs', vs = v :: vs' ∧ TreeAt H v b ∧ TreesAt H vs' bs := by rw [TreesAt]
theorem own_mk {H : Hp} {v : V} {bs : List Tt} {as : List Addr} : Own H v (.mk bs) as = ∃ a vs as', v = .ref a ∧ as = a :: as' ∧ H a = some (.lst vs) ∧ Owns H vs bs as' := by rw [Own]
theorem owns_nil {H : Hp} {vs : List V} {as : List Addr} : Owns H vs [] as = (vs = [] ∧ as = []) := by rw [Owns]
theorem owns_cons {H : Hp} {vs : List V} {b : Tt} {bs : List Tt} {as : List Addr} : Owns H vs (b :: bs) as = ∃ v vs' a1 a2, vs = v :: vs' ∧ as = a1 ++ a2 ∧ Own H v b a1 ∧ Owns H vs' bs a2 := by rw [Owns]

mutual
theorem TreeAt.same {H H' : Hp} (s : Same H H') : ∀ {v : V} (t : Tt), TreeAt H v t → TreeAt H' v t
  | v, .mk bs, h => by
    rw [treeAt_mk] at h ⊢
    obtain ⟨a, vs, e, h1, h2⟩ := h
    exact ⟨a, vs, e, s _ _ h1, TreesAt.same s bs h2⟩
theorem TreesAt.same {H H' : Hp} (s : Same H H') : ∀ {vs : List V} (ts : List Tt), TreesAt H vs ts → TreesAt H' vs ts
  | vs, [], h => by rw [treesAt_nil] at h ⊢; exact h
  | vs, b :: bs, h => by
    rw [treesAt_cons] at h ⊢
    obtain ⟨v, vs', e, h1, h2⟩ := h
    exact ⟨v, vs', e, TreeAt.same s b h1, TreesAt.same s bs h2⟩
end
mutual
theorem Own.at_ {H : Hp} : ∀ {v : V} (t : Tt) {as : List Addr}, Own H v t as → TreeAt H v t
  | v, .mk bs, as, h => by
    rw [own_mk] at h; rw [treeAt_mk]
    obtain ⟨a, vs, as', e, _, h1, h2⟩ := h
    exact ⟨a, vs, e, h1, Owns.at_ bs h2⟩
theorem Owns.at_ {H : Hp} : ∀ {vs : List V} (ts : List Tt) {as : List Addr}, Owns H vs ts as → TreesAt H vs ts
  | vs, [], as, h => by rw [owns_nil] at h; rw [treesAt_nil]; exact h.1
  | vs, b :: bs, as, h => by
    rw [owns_cons] at h; rw [treesAt_cons]
    obtain ⟨v, vs', a1, a2, e, _, h1, h2⟩ := h
    exact ⟨v, vs', e, Own.at_ b h1, Owns.at_ bs h2⟩
end
mutual
/-- what it owns is tracked; kept where its own places are kept -/
theorem Own.frame {H H' : Hp} : ∀ {v : V} (t : Tt) {as : List Addr}, Own H v t as → (∀ a, a ∈ as → ∀ o, H a = some o → H' a = some o) → Own H' v t as
  | v, .mk bs, as, h, k => by
    rw [own_mk] at h ⊢
    obtain ⟨a, vs, as', e, ea, h1, h2⟩ := h
    subst ea
    exact ⟨a, vs, as', e, rfl, k a List.mem_cons_self _ h1, Owns.frame bs h2 fun b hb => k b (List.mem_cons_of_mem _ hb)⟩
theorem Owns.frame {H H' : Hp} : ∀ {vs : List V} (ts : List Tt) {as : List Addr}, Owns H vs ts as → (∀ a, a ∈ as → ∀ o, H a = some o → H' a = some o) → Owns H' vs ts as
  | vs, [], as, h, _ => by rw [owns_nil] at h ⊢; exact h
  | vs, b :: bs, as, h, k => by
    rw [owns_cons] at h ⊢
    obtain ⟨v, vs', a1, a2, e, ea, h1, h2⟩ := h
    subst ea
    exact ⟨v, vs', a1, a2, e, rfl, Own.frame b h1 fun a ha => k a (List.mem_append_left _ ha), Owns.frame bs h2 fun a ha => k a (List.mem_append_right _ ha)⟩
end
mutual
theorem Own.tracked {H : Hp} : ∀ {v : V} (t : Tt) {as : List Addr}, Own H v t as → ∀ a, a ∈ as → ∃ xs, H a = some (.lst xs)
  | v, .mk bs, as, h, a, ha => by
    rw [own_mk] at h
    obtain ⟨a', vs, as', e, ea, h1, h2⟩ := h
    subst ea
    rcases List.mem_cons.mp ha with e | ha
    · rw [e]; exact ⟨vs, h1⟩
    · exact Owns.tracked bs h2 a ha
theorem Owns.tracked {H : Hp} : ∀ {vs : List V} (ts : List Tt) {as : List Addr}, Owns H vs ts as → ∀ a, a ∈ as → ∃ xs, H a = some (.lst xs)
  | vs, [], as, h, a, ha => by rw [owns_nil] at h; rw [h.2] at ha; cases ha
  | vs, b :: bs, as, h, a, ha => by
    rw [owns_cons] at h
    obtain ⟨v, vs', a1, a2, e, ea, h1, h2⟩ := h
    subst ea
    rcases List.mem_append.mp ha with ha | ha
    · exact Own.tracked b h1 a ha
    · exact Owns.tracked bs h2 a ha
end
theorem TreesAt.len {H : Hp} : ∀ {vs : List V} {ts : List Tt}, TreesAt H vs ts → vs.length = ts.length
  | vs, [], h => by rw [treesAt_nil] at h; rw [h]; rfl
  | vs, b :: bs, h => by
    rw [treesAt_cons] at h
    obtain ⟨v, vs', e, _, h2⟩ := h
    rw [e, List.length_cons, List.length_cons, TreesAt.len h2]
theorem TreesAt.get {H : Hp} : ∀ {vs : List V} {ts : List Tt} {i : Nat} {v : V}, TreesAt H vs ts → vs[i]? = some v → ∃ t, ts[i]? = some t ∧ TreeAt H v t
  | vs, [], i, v, h, e => by rw [treesAt_nil] at h; rw [h] at e; cases e
  | vs, b :: bs, i, v, h, e => by
    rw [treesAt_cons] at h
    obtain ⟨w, vs', ev, h1, h2⟩ := h
    subst ev
    cases i with
    | zero =>
      have e' : w = v := Option.some.inj (by simpa using e)
      exact ⟨b, rfl, e' ▸ h1⟩
    | succ i =>
      obtain ⟨t, e1, h3⟩ := TreesAt.get h2 (i := i) (v := v) (by simpa using e)
      exact ⟨t, by simpa using e1, h3⟩
theorem TreesAt.get' {H : Hp} {vs : List V} {ts : List Tt} {i : Nat} {t : Tt} (h : TreesAt H vs ts) (e : ts[i]? = some t) : ∃ v, vs[i]? = some v ∧ TreeAt H v t := by
  have hl := h.len
  obtain ⟨hi, _⟩ := List.getElem?_eq_some_iff.mp e
  have hv : i < vs.length := by omega
  obtain ⟨t', e', h'⟩ := h.get (List.getElem?_eq_getElem hv)
  rw [e] at e'
  cases e'
  exact ⟨_, List.getElem?_eq_getElem hv, h'⟩
theorem TreesAt.append {H : Hp} : ∀ {vs ws : List V} {ts us : List Tt}, TreesAt H vs ts → TreesAt H ws us → TreesAt H (vs ++ ws) (ts ++ us)
  | vs, ws, [], us, h, k => by rw [treesAt_nil] at h; rw [h]; exact k
  | vs, ws, b :: bs, us, h, k => by
    rw [treesAt_cons] at h
    obtain ⟨w, vs', ev, h1, h2⟩ := h
    subst ev
    rw [List.cons_append, List.cons_append, treesAt_cons]
    exact ⟨w, _, rfl, h1, TreesAt.append h2 k⟩
theorem TreesAt.one {H : Hp} {v : V} {t : Tt} (h : TreeAt H v t) : TreesAt H [v] [t] := by
  rw [treesAt_cons]; exact ⟨v, [], rfl, h, by rw [treesAt_nil]⟩
theorem Owns.append {H : Hp} : ∀ {vs ws : List V} {ts us : List Tt} {as bs : List Addr}, Owns H vs ts as → Owns H ws us bs → Owns H (vs ++ ws) (ts ++ us) (as ++ bs)
  | vs, ws, [], us, as, bs, h, k => by rw [owns_nil] at h; rw [h.1, h.2]; exact k
  | vs, ws, b :: ts, us, as, bs, h, k => by
    rw [owns_cons] at h
    obtain ⟨w, vs', a1, a2, ev, ea, h1, h2⟩ := h
    subst ev ea
    rw [List.cons_append, List.cons_append, owns_cons]
    exact ⟨w, _, a1, a2 ++ bs, rfl, List.append_assoc _ _ _, h1, Owns.append h2 k⟩
theorem Owns.one {H : Hp} {v : V} {t : Tt} {as : List Addr} (h : Own H v t as) : Owns H [v] [t] as := by
  rw [owns_cons]; exact ⟨v, [], as, [], rfl, by simp, h, by rw [owns_nil]; exact ⟨rfl, rfl⟩⟩
theorem Owns.split {H : Hp} : ∀ {ts us : List Tt} {vs : List V} {as : List Addr}, Owns H vs (ts ++ us) as → ∃ v1 v2 a1 a2, vs = v1 ++ v2 ∧ as = a1 ++ a2 ∧ Owns H v1 ts a1 ∧ Owns H v2 us a2
  | [], us, vs, as, h => ⟨[], vs, [], as, rfl, rfl, by rw [owns_nil]; exact ⟨rfl, rfl⟩, h⟩
  | b :: ts, us, vs, as, h => by
    rw [List.cons_append, owns_cons] at h
    obtain ⟨w, vs', a1, a2, ev, ea, h1, h2⟩ := h
    obtain ⟨v1, v2, b1, b2, e1, e2, k1, k2⟩ := Owns.split h2
    subst ev ea e1 e2
    refine ⟨w :: v1, v2, a1 ++ b1, b2, rfl, (List.append_assoc _ _ _).symm, ?_, k2⟩
    rw [owns_cons]
    exact ⟨w, v1, a1, b1, rfl, rfl, h1, k1⟩
theorem Owns.len {H : Hp} {vs : List V} {ts : List Tt} {as : List Addr} (h : Owns H vs ts as) : vs.length = ts.length := (Owns.at_ ts h).len

/-- a tree made anew behind H: all its lists are new, none stands in it twice -/
def New (H H' : Hp) (v : V) (t : Tt) : Prop := Same H H' ∧ ∃ as, Own H' v t as ∧ as.Nodup ∧ ∀ a, a ∈ as → H a = none
theorem New.at_ {H H' : Hp} {v : V} {t : Tt} (n : New H H' v t) : TreeAt H' v t := let ⟨_, _, o, _⟩ := n; Own.at_ t o
theorem New.of {H0 H H' : Hp} {v : V} {t : Tt} (n : New H H' v t) (s : Same H0 H) : New H0 H' v t := by
  obtain ⟨k, as, o, nd, f⟩ := n
  exact ⟨s.trans k, as, o, nd, fun a ha => s.free (f a ha)⟩
theorem New.step {H H' H2 : Hp} {v : V} {t : Tt} (n : New H H' v t) (s : Same H' H2) : New H H2 v t := by
  obtain ⟨k, as, o, nd, f⟩ := n
  exact ⟨k.trans s, as, Own.frame t o fun a _ u e => s a u e, nd, f⟩
theorem same_new {H : Hp} {p : Addr} (h : H p = none) (o : HO) : Same H (upd H p o) := fun b u q => by rw [upd_ne (ne_of_none q h)]; exact q

/-- a new list D that is filled with new trees -/
def Grow (H H' : Hp) (D : Addr) (ts : List Tt) : Prop := Same H H' ∧ H D = none ∧ ∃ acc as, H' D = some (.lst acc) ∧ Owns H' acc ts as ∧ (D :: as).Nodup ∧ ∀ a, a ∈ as → H a = none
theorem Grow.start {H : Hp} {D : Addr} (h : H D = none) : Grow H (upd H D (.lst [])) D [] :=
  ⟨same_new h _, h, [], [], upd_same, by rw [owns_nil]; exact ⟨rfl, rfl⟩, List.nodup_cons.mpr ⟨by simp, List.nodup_nil⟩, fun a ha => by cases ha⟩
theorem Grow.step {H H' H2 : Hp} {D : Addr} {ts : List Tt} (g : Grow H H' D ts) (s : Same H' H2) : Grow H H2 D ts := by
  obtain ⟨k, hD, acc, as, h1, h2, nd, f⟩ := g
  exact ⟨k.trans s, hD, acc, as, s _ _ h1, Owns.frame ts h2 fun a _ u e => s a u e, nd, f⟩
theorem Grow.same {H H' : Hp} {D : Addr} {ts : List Tt} (g : Grow H H' D ts) : Same H H' := g.1
theorem Grow.done {H H' : Hp} {D : Addr} {ts : List Tt} (g : Grow H H' D ts) : New H H' (.ref D) (.mk ts) := by
  obtain ⟨k, hD, acc, as, h1, h2, nd, f⟩ := g
  refine ⟨k, D :: as, by rw [own_mk]; exact ⟨D, acc, as, rfl, rfl, h1, h2⟩, nd, fun a ha => ?_⟩
  rcases List.mem_cons.mp ha with e | ha
  · rw [e]; exact hD
  · exact f a ha
theorem Grow.at_ {H H' : Hp} {D : Addr} {ts : List Tt} (g : Grow H H' D ts) : ∃ acc, H' D = some (.lst acc) ∧ TreesAt H' acc ts ∧ acc.length = ts.length := by
  obtain ⟨k, hD, acc, as, h1, h2, nd, f⟩ := g
  exact ⟨acc, h1, Owns.at_ ts h2, h2.len⟩
/-- a new tree put in at a place -/
theorem Grow.put {H H' H2 : Hp} {D : Addr} {l r : List Tt} {v : V} {t : Tt} (g : Grow H H' D (l ++ r)) (n : New H' H2 v t) :
    ∃ av rv, H2 D = some (.lst (av ++ rv)) ∧ av.length = l.length ∧ rv.length = r.length ∧ Grow H (upd H2 D (.lst (av ++ v :: rv))) D (l ++ t :: r) := by
  obtain ⟨k, hD, acc, as, h1, h2, nd, f⟩ := g
  obtain ⟨s, bs, o, nb, fb⟩ := n
  obtain ⟨av, rv, a1, a2, e1, e2, k1, k2⟩ := h2.split
  subst e1 e2
  have tr1 := Owns.tracked l k1
  have tr2 := Owns.tracked r k2
  have hDb : D ∉ bs := fun hb => by have := fb D hb; rw [h1] at this; cases this
  obtain ⟨nD, nas⟩ := List.nodup_cons.mp nd
  have dis1 : ∀ a, a ∈ a1 → a ∉ bs := fun a ha hb => by
    obtain ⟨xs, q⟩ := tr1 a ha; rw [fb a hb] at q; cases q
  have dis2 : ∀ a, a ∈ a2 → a ∉ bs := fun a ha hb => by
    obtain ⟨xs, q⟩ := tr2 a ha; rw [fb a hb] at q; cases q
  have keep : ∀ a, a ≠ D → ∀ u, H2 a = some u → upd H2 D (.lst (av ++ v :: rv)) a = some u := fun a ha u q => by rw [upd_ne ha]; exact q
  have ne1 : ∀ a, a ∈ a1 → a ≠ D := fun a ha e => nD (by rw [← e]; exact List.mem_append_left _ ha)
  have ne2 : ∀ a, a ∈ a2 → a ≠ D := fun a ha e => nD (by rw [← e]; exact List.mem_append_right _ ha)
  refine ⟨av, rv, s _ _ h1, k1.len, k2.len, ⟨fun b u q => ?_, hD, av ++ v :: rv, a1 ++ (bs ++ a2), upd_same, ?_, ?_, fun a ha => ?_⟩⟩
  · rw [upd_ne (ne_of_none q hD)]; exact s _ _ (k _ _ q)
  · refine Owns.append (Owns.frame l k1 fun a ha u q => keep a (ne1 a ha) u (s _ _ q)) ?_
    rw [owns_cons]
    refine ⟨v, rv, bs, a2, rfl, rfl, Own.frame t o fun a ha u q => keep a (fun e => hDb (e ▸ ha)) u q, Owns.frame r k2 fun a ha u q => keep a (ne2 a ha) u (s _ _ q)⟩
  · obtain ⟨n1, n2, n3⟩ := List.nodup_append.mp nas
    refine List.nodup_cons.mpr ⟨fun h => ?_, List.nodup_append.mpr ⟨n1, List.nodup_append.mpr ⟨nb, n2, fun a ha b hb e => dis2 b hb (e ▸ ha)⟩, fun a ha b hb e => ?_⟩⟩
    · rcases List.mem_append.mp h with h | h
      · exact ne1 D h rfl
      · rcases List.mem_append.mp h with h | h
        · exact hDb h
        · exact ne2 D h rfl
    · rcases List.mem_append.mp hb with hb | hb
      · exact dis1 a ha (e ▸ hb)
      · exact n3 a ha b hb e
  · rcases List.mem_append.mp ha with ha | ha
    · exact f a (List.mem_append_left _ ha)
    · rcases List.mem_append.mp ha with ha | ha
      · exact k.free (fb a ha)
      · exact f a (List.mem_append_right _ ha)
theorem Grow.more {H H' H2 : Hp} {D : Addr} {ts : List Tt} {v : V} {t : Tt} (g : Grow H H' D ts) (n : New H' H2 v t) :
    ∃ acc, H2 D = some (.lst acc) ∧ acc.length = ts.length ∧ Grow H (upd H2 D (.lst (acc ++ [v]))) D (ts ++ [t]) := by
  have g' : Grow H H' D (ts ++ []) := by rw [List.append_nil]; exact g
  obtain ⟨av, rv, h1, h2, h3, h4⟩ := g'.put n
  have e : rv = [] := List.length_eq_zero_iff.mp h3
  subst e
  rw [List.append_nil] at h1
  exact ⟨av, h1, h2, h4⟩

/-- no knot has too many branches for a list -/
def lim : Nat := 200000
mutual
def fit : Tt → Prop
  | .mk l => l.length ≤ lim ∧ fitL l
def fitL : List Tt → Prop
  | [] => True
  | x :: l => fit x ∧ fitL l
end
theorem fit_mk {l : List Tt} : fit (.mk l) = (l.length ≤ lim ∧ fitL l) := by rw [fit]
theorem fitL_iff : ∀ {l : List Tt}, fitL l ↔ ∀ x, x ∈ l → fit x
  | [] => by simp [fitL]
  | x :: l => by
    rw [fitL, fitL_iff (l := l)]
    simp
theorem fit_bs {l : List Tt} (h : fit (.mk l)) {x : Tt} (hx : x ∈ l) : fit x := by rw [fit_mk] at h; exact fitL_iff.mp h.2 x hx
theorem fit_len {l : List Tt} (h : fit (.mk l)) : l.length ≤ lim := by rw [fit_mk] at h; exact h.1
theorem lim_line {n : Nat} (h : n ≤ lim) : n < sizeLine := Nat.lt_of_le_of_lt h (by decide)
end Hg
/-! Own helpers over the hand layer: joining ways. -/
namespace Hg
open PySem L2
/-- a test's outcome told once, then what follows -/
theorem cut_t {t : TT} {σ : St} {H : Hp} {Q : Bool → Hp → Prop} (R : Bool → Hp → Prop) (h : ∀ Q' : Bool → Hp → Prop, (∀ b H', R b H' → Q' b H') → t σ H Q') (k : ∀ b H', R b H' → Q b H') : t σ H Q := h Q k
theorem cut_if {c : TT} {t u : TS} {D : Ends} {σ : St} {H : Hp} (R : Bool → Hp → Prop) (h : ∀ Q' : Bool → Hp → Prop, (∀ b H', R b H' → Q' b H') → c σ H Q') (k : ∀ b H', R b H' → if b = true then t D σ H' else u D σ H') : tIfS c t u D σ H := h _ k
theorem cut_e {t : TE} {σ : St} {H : Hp} {Q : VK} (R : V → Hp → Prop) (h : ∀ Q' : VK, (∀ v H', R v H' → Q' v H') → t σ H Q') (k : ∀ v H', R v H' → Q v H') : t σ H Q := h Q k
/-- a statement whose ways come together -/
def tCut (t u : TS) : TS := fun D σ H => ∃ N : St → Hp → Prop, t { D with nx := N } σ H ∧ ∀ σ' H', N σ' H' → u D σ' H'
theorem pss_cut2 {X : Cx} {st : Stmt} {rest : List Stmt} {t u : TS} (h1 : PS X st t) (h2 : PSs X rest u) : PSs X (st :: rest) (tCut t u) := by
  refine ⟨fun pins s σ H D I h => ?_⟩
  obtain ⟨N, h, k⟩ := h
  refine wpAny_execs_cons (thn (h1.run pins s σ H { D with nx := N } I h) fun f s1 q => ?_)
  cases f with
  | next =>
    obtain ⟨σ', H', I', q⟩ := q
    exact h2.run pins s1 σ' H' D I' (k σ' H' q)
  | ret v => exact q
  | brk => exact q
  | cont => exact q
def rLenS (K : PySem.W.Frag) : List V → Hp → VK → Prop := fun xs H Q => ∃ p ys, xs = [.ref p] ∧ (SqL K H p ys ∨ SqT K H p ys) ∧ Q (.int ys.length) H
theorem call_len_seqK {X : Cx} : CallR X (.builtin "len") (rLenS X.K) := call_len_seq
def rListOf (K : PySem.W.Frag) : List V → Hp → VK → Prop := fun xs H Q => ∃ p ys, xs = [.ref p] ∧ (SqL K H p ys ∨ SqT K H p ys) ∧ ∀ l, H l = none → Q (.ref l) (upd H l (.lst ys))
theorem call_list_ofK {X : Cx} : CallR X (.type "list") (rListOf X.K) := call_list_of
/-- * of great ints -/
def CMulX (i j : Int) : Prop := i.natAbs.log2 + j.natAbs.log2 < 100000000
theorem CMulX.ok {i j : Int} (h : CMulX i j) : IntMulOk i j := by
  have b : ∀ x : Int, Builtin.Int.intBits x ≤ x.natAbs.log2 + 1 := fun x => by
    unfold Builtin.Int.intBits
    split <;> omega
  have h1 := b i
  have h2 := b j
  have h3 : i.natAbs.log2 + j.natAbs.log2 < 100000000 := h
  have e : bitsLine = 134217728 := by decide
  unfold IntMulOk
  intro z
  rw [Bool.and_eq_true] at z
  have z2 := z.2
  unfold Builtin.Int.intTooBig at z2
  have z3 := of_decide_eq_true z2
  rw [e] at z3
  omega
theorem op_mulX {X : Cx} : OpR X (binaryOp .Mult) (rI CMulX fun i j => .int (i * j)) := opI fun _ _ _ _ _ _ _ hc q => PyProof.Rows.mul_int q hc.ok
theorem log2_le {n k : Nat} (h : n < 2 ^ k) : n.log2 ≤ k := by
  by_cases h0 : n = 0
  · subst h0; simp
  · exact Nat.le_of_lt ((Nat.log2_lt h0).mpr h)
/-- from bounds by powers of two -/
theorem mulX {i j : Int} {a b : Nat} (ha : i.natAbs < 2 ^ a) (hb : j.natAbs < 2 ^ b) (h : a + b < 100000000) : CMulX i j := by
  have x := log2_le ha
  have y := log2_le hb
  unfold CMulX
  omega
end Hg
/-! Things that may be no trees. -/
namespace Hg
open PySem L2
inductive Th where
  | no
  | li (xs : List Th)
mutual
def isT : Th → Nat → Int → Bool × Int
  | .no, _, L => (false, L)
  | .li xs, d, L => if 40 < d ∨ L < 1 then (false, L) else ((isTl xs (d + 1) (L - 1)).1.all id, (isTl xs (d + 1) (L - 1)).2)
def isTl : List Th → Nat → Int → List Bool × Int
  | [], _, L => ([], L)
  | x :: xs, d, L => ((isT x d L).1 :: (isTl xs d (isT x d L).2).1, (isTl xs d (isT x d L).2).2)
end
theorem isT_no {d : Nat} {L : Int} : isT .no d L = (false, L) := by rw [isT]
theorem isT_li {xs : List Th} {d : Nat} {L : Int} : isT (.li xs) d L = if 40 < d ∨ L < 1 then (false, L) else ((isTl xs (d + 1) (L - 1)).1.all id, (isTl xs (d + 1) (L - 1)).2) := by rw [isT]
theorem isTl_nil {d : Nat} {L : Int} : isTl [] d L = ([], L) := by rw [isTl]
theorem isTl_cons {x : Th} {xs : List Th} {d : Nat} {L : Int} : isTl (x :: xs) d L = ((isT x d L).1 :: (isTl xs d (isT x d L).2).1, (isTl xs d (isT x d L).2).2) := by rw [isTl]
theorem isTl_snoc : ∀ (xs : List Th) (x : Th) (d : Nat) (L : Int), isTl (xs ++ [x]) d L = ((isTl xs d L).1 ++ [(isT x d (isTl xs d L).2).1], (isT x d (isTl xs d L).2).2)
  | [], x, d, L => by rw [List.nil_append, isTl_cons, isTl_nil, isTl_nil]; rfl
  | y :: xs, x, d, L => by rw [List.cons_append, isTl_cons, isTl_snoc xs, isTl_cons]; rfl
theorem isTl_len : ∀ (xs : List Th) (d : Nat) (L : Int), (isTl xs d L).1.length = xs.length
  | [], d, L => by rw [isTl_nil]; rfl
  | y :: xs, d, L => by rw [isTl_cons, List.length_cons, List.length_cons, isTl_len xs]
/-- no list -/
inductive Leaf (H : Hp) : V → Prop where
  | non : Leaf H .non
  | bl (b : Bool) : Leaf H (.bl b)
  | int (i : Int) : Leaf H (.int i)
  | str (x : Str) : Leaf H (.str x)
  | tup {a : Addr} {xs : List V} (e : H a = some (.tup xs)) : Leaf H (.ref a)
  | dK {a : Addr} {kvs : List (Key × V)} (e : H a = some (.dK kvs)) : Leaf H (.ref a)
theorem Leaf.same {H H' : Hp} {v : V} (s : Same H H') (h : Leaf H v) : Leaf H' v := by
  cases h with
  | non => exact .non
  | bl b => exact .bl b
  | int i => exact .int i
  | str x => exact .str x
  | tup e => exact .tup (s _ _ e)
  | dK e => exact .dK (s _ _ e)
theorem Leaf.isi {K : PySem.W.Frag} {H : Hp} {v : V} (h : Leaf H v) : ∃ t, TyX K H v t ∧ PySem.W.kitOne K t (.type "list") = some false := by
  cases h with
  | non => exact ⟨_, .base .non, kit_ty (by decide +kernel)⟩
  | bl b => exact ⟨_, .base (.bl b), kit_ty (by decide +kernel)⟩
  | int i => exact ⟨_, .base (.int i), kit_ty (by decide +kernel)⟩
  | str x => exact ⟨_, .base (.str x), kit_ty (by decide +kernel)⟩
  | tup e => exact ⟨_, .base (.tup e), kit_ty (by decide +kernel)⟩
  | dK e => exact ⟨_, .base (.dK e), kit_ty (by decide +kernel)⟩
theorem list_isi {K : PySem.W.Frag} {H : Hp} {a : Addr} {xs : List V} (h : H a = some (.lst xs)) : TyX K H (.ref a) (.type "list") ∧ PySem.W.kitOne K (.type "list") (.type "list") = some true :=
  ⟨.base (.lst h), kit_ty (by decide +kernel)⟩
mutual
def ThAt (H : Hp) : V → Th → Prop
  | v, .no => Leaf H v
  | v, .li bs => ∃ a vs, v = .ref a ∧ H a = some (.lst vs) ∧ ThsAt H vs bs
def ThsAt (H : Hp) : List V → List Th → Prop
  | vs, [] => vs = []
  | vs, b :: bs => ∃ v vs', vs = v :: vs' ∧ ThAt H v b ∧ ThsAt H vs' bs
end
theorem thAt_no {H : Hp} {v : V} : ThAt H v .no = Leaf H v := by rw [ThAt]
theorem thAt_li {H : Hp} {v : V} {bs : List Th} : ThAt H v (.li bs) = ∃ a vs, v = .ref a ∧ H a = some (.lst vs) ∧ ThsAt H vs bs := by rw [ThAt]
theorem thsAt_nil {H : Hp} {vs : List V} : ThsAt H vs [] = (vs = []) := by rw [ThsAt]
theorem thsAt_cons {H : Hp} {vs : List V} {b : Th} {bs : List Th} : ThsAt H vs (b :: bs) = ∃ v vs', vs = v :: vs' ∧ ThAt H v b ∧ ThsAt H vs' bs := by rw [ThsAt]
mutual
theorem ThAt.same {H H' : Hp} (s : Same H H') : ∀ {v : V} (t : Th), ThAt H v t → ThAt H' v t
  | v, .no, h => by rw [thAt_no] at h ⊢; exact h.same s
  | v, .li bs, h => by
    rw [thAt_li] at h ⊢
    obtain ⟨a, vs, e, h1, h2⟩ := h
    exact ⟨a, vs, e, s _ _ h1, ThsAt.same s bs h2⟩
theorem ThsAt.same {H H' : Hp} (s : Same H H') : ∀ {vs : List V} (ts : List Th), ThsAt H vs ts → ThsAt H' vs ts
  | vs, [], h => by rw [thsAt_nil] at h ⊢; exact h
  | vs, b :: bs, h => by
    rw [thsAt_cons] at h ⊢
    obtain ⟨v, vs', e, h1, h2⟩ := h
    exact ⟨v, vs', e, ThAt.same s b h1, ThsAt.same s bs h2⟩
end
theorem ThsAt.len {H : Hp} : ∀ {vs : List V} {ts : List Th}, ThsAt H vs ts → vs.length = ts.length
  | vs, [], h => by rw [thsAt_nil] at h; rw [h]; rfl
  | vs, b :: bs, h => by
    rw [thsAt_cons] at h
    obtain ⟨v, vs', e, _, h2⟩ := h
    rw [e, List.length_cons, List.length_cons, ThsAt.len h2]
theorem ThsAt.get {H : Hp} : ∀ {vs : List V} {ts : List Th} {i : Nat} {v : V}, ThsAt H vs ts → vs[i]? = some v → ∃ t, ts[i]? = some t ∧ ThAt H v t
  | vs, [], i, v, h, e => by rw [thsAt_nil] at h; rw [h] at e; cases e
  | vs, b :: bs, i, v, h, e => by
    rw [thsAt_cons] at h
    obtain ⟨w, vs', ev, h1, h2⟩ := h
    subst ev
    cases i with
    | zero =>
      have e' : w = v := Option.some.inj (by simpa using e)
      exact ⟨b, rfl, e' ▸ h1⟩
    | succ i =>
      obtain ⟨t, e1, h3⟩ := ThsAt.get h2 (i := i) (v := v) (by simpa using e)
      exact ⟨t, by simpa using e1, h3⟩
mutual
def toTh : Tt → Th
  | .mk l => .li (toThL l)
def toThL : List Tt → List Th
  | [] => []
  | x :: l => toTh x :: toThL l
end
mutual
theorem TreeAt.th {H : Hp} : ∀ {v : V} (t : Tt), TreeAt H v t → ThAt H v (toTh t)
  | v, .mk bs, h => by
    rw [treeAt_mk] at h
    obtain ⟨a, vs, e, h1, h2⟩ := h
    rw [toTh, thAt_li]
    exact ⟨a, vs, e, h1, TreesAt.th bs h2⟩
theorem TreesAt.th {H : Hp} : ∀ {vs : List V} (ts : List Tt), TreesAt H vs ts → ThsAt H vs (toThL ts)
  | vs, [], h => by rw [treesAt_nil] at h; rw [toThL, thsAt_nil]; exact h
  | vs, b :: bs, h => by
    rw [treesAt_cons] at h
    obtain ⟨v, vs', e, h1, h2⟩ := h
    rw [toThL, thsAt_cons]
    exact ⟨v, vs', e, TreeAt.th b h1, TreesAt.th bs h2⟩
end
theorem knots_pos (t : Tt) : 1 ≤ knots t := by cases t with | mk l => rw [knots]; omega
theorem depth_mk_le {l : List Tt} {d n : Nat} (h : depth (.mk l) + d ≤ n) : ∀ x, x ∈ l → depth x + (d + 1) ≤ n := fun x hx => by
  rw [depth] at h
  have : ∀ {l : List Tt} {x : Tt}, x ∈ l → depth x + 1 ≤ depthL l := by
    intro l
    induction l with
    | nil => intro x h; cases h
    | cons y l ih =>
      intro x h
      rw [depthL]
      rcases List.mem_cons.mp h with e | h
      · rw [e]; omega
      · have := ih h; omega
  have := this hx
  omega
mutual
theorem isT_tree : ∀ (t : Tt) (d : Nat) (L : Int), depth t + d ≤ 40 → (knots t : Int) ≤ L → isT (toTh t) d L = (true, L - knots t)
  | .mk l, d, L, hd, hk => by
    have hk' : ((1 + knotsL l : Nat) : Int) ≤ L := by rw [knots] at hk; exact hk
    have ih := isT_trees l (d + 1) (L - 1) (depth_mk_le hd) (by omega)
    rw [toTh, isT_li, if_neg (by omega), ih, knots]
    refine Prod.ext ?_ ?_
    · show (List.replicate l.length true).all id = true
      simp
    · show L - 1 - (knotsL l : Int) = L - ((1 + knotsL l : Nat) : Int)
      omega
theorem isT_trees : ∀ (l : List Tt) (d : Nat) (L : Int), (∀ x, x ∈ l → depth x + d ≤ 40) → (knotsL l : Int) ≤ L → isTl (toThL l) d L = (List.replicate l.length true, L - knotsL l)
  | [], d, L, _, _ => by rw [toThL, isTl_nil, knotsL]; simp
  | x :: l, d, L, hd, hk => by
    have hk' : ((knots x + knotsL l : Nat) : Int) ≤ L := by rw [knotsL] at hk; exact hk
    rw [toThL, isTl_cons, isT_tree x d L (hd x List.mem_cons_self) (by omega), isT_trees l d (L - knots x) (fun y hy => hd y (List.mem_cons_of_mem _ hy)) (by omega), knotsL]
    refine Prod.ext (by simp [List.replicate_succ]) ?_
    show L - (knots x : Int) - (knotsL l : Int) = L - ((knots x + knotsL l : Nat) : Int)
    omega
end
mutual
def fitTh : Th → Prop
  | .no => True
  | .li l => l.length ≤ lim ∧ fitThL l
def fitThL : List Th → Prop
  | [] => True
  | x :: l => fitTh x ∧ fitThL l
end
theorem fitTh_li {l : List Th} : fitTh (.li l) = (l.length ≤ lim ∧ fitThL l) := by rw [fitTh]
theorem fitThL_mem : ∀ {l : List Th}, fitThL l → ∀ x, x ∈ l → fitTh x
  | [], _, x, h => by cases h
  | y :: l, k, x, h => by
    rw [fitThL] at k
    rcases List.mem_cons.mp h with e | h
    · rw [e]; exact k.1
    · exact fitThL_mem k.2 x h
theorem toThL_len : ∀ l : List Tt, (toThL l).length = l.length
  | [] => by rw [toThL]; rfl
  | x :: l => by rw [toThL, List.length_cons, List.length_cons, toThL_len l]
mutual
theorem fit_toTh : ∀ t : Tt, fit t → fitTh (toTh t)
  | .mk l, h => by rw [fit_mk] at h; rw [toTh, fitTh_li, toThL_len]; exact ⟨h.1, fit_toThL l h.2⟩
theorem fit_toThL : ∀ l : List Tt, fitL l → fitThL (toThL l)
  | [], _ => by rw [toThL, fitThL]; trivial
  | x :: l, h => by rw [fitL] at h; rw [toThL, fitThL]; exact ⟨fit_toTh x h.1, fit_toThL l h.2⟩
end
theorem knotsL_len : ∀ l : List Tt, l.length ≤ knotsL l
  | [] => by simp [knotsL]
  | x :: l => by rw [knotsL, List.length_cons]; have := knotsL_len l; have := knots_pos x; omega
theorem knotsL_mem : ∀ {l : List Tt} {x : Tt}, x ∈ l → knots x ≤ knotsL l
  | y :: l, x, h => by
    rw [knotsL]
    rcases List.mem_cons.mp h with e | h
    · rw [e]; omega
    · have := knotsL_mem h; omega
theorem fit_of_knots {n : Nat} (hn : n ≤ lim) : ∀ (t : Tt), knots t ≤ n → fit t := by
  intro t
  induction t using Tt.ind with
  | h l ih =>
    intro h
    rw [knots] at h
    rw [fit_mk]
    have := knotsL_len l
    refine ⟨by omega, fitL_iff.mpr fun x hx => ih x hx ?_⟩
    have := knotsL_mem hx
    omega
/-- a tree to be asked with -/
def okT (t : Tt) : Prop := knots t ≤ 300 ∧ depth t ≤ 40
theorem okT.fit {t : Tt} (h : okT t) : fit t := fit_of_knots (n := 300) (by decide) t h.1
theorem okT.dp {t : Tt} (h : okT t) : depth t < 41 := Nat.lt_succ_of_le h.2
/-- no tree to be asked with -/
def Bad (H : Hp) (v : V) : Prop := ∃ th, ThAt H v th ∧ fitTh th ∧ (isT th 0 300).1 = false
theorem Bad.same {H H' : Hp} {v : V} (s : Same H H') (h : Bad H v) : Bad H' v := let ⟨th, a, b, c⟩ := h; ⟨th, ThAt.same s th a, b, c⟩
end Hg
/-! Trees as data: == of trees. -/
namespace Hg
open PySem L2
mutual
def toD : Tt → PyData
  | .mk l => .list (toDL l)
def toDL : List Tt → List PyData
  | [] => []
  | x :: l => toD x :: toDL l
end
theorem toD_mk (l : List Tt) : toD (.mk l) = .list (toDL l) := by rw [toD]
mutual
theorem TreeAt.dp {K : PySem.W.Frag} {H : Hp} : ∀ {v : V} (t : Tt), TreeAt H v t → Dp K H v (toD t)
  | v, .mk bs, h => by
    rw [treeAt_mk] at h
    obtain ⟨a, vs, e, h1, h2⟩ := h
    subst e
    rw [toD]
    exact .lst (SqL.of h1) (TreesAt.dp bs h2)
theorem TreesAt.dp {K : PySem.W.Frag} {H : Hp} : ∀ {vs : List V} (ts : List Tt), TreesAt H vs ts → DpAll K H vs (toDL ts)
  | vs, [], h => by rw [treesAt_nil] at h; subst h; rw [toDL]; exact .nil
  | vs, b :: bs, h => by
    rw [treesAt_cons] at h
    obtain ⟨v, vs', e, h1, h2⟩ := h
    subst e
    rw [toDL]
    exact .cons (TreeAt.dp b h1) (TreesAt.dp bs h2)
end
mutual
theorem toD_lay : ∀ t : Tt, (toD t).canLay0 = true
  | .mk l => by rw [toD, PyData.canLay0]; exact toDL_lay l
theorem toDL_lay : ∀ l : List Tt, PyData.canLayAll0 (toDL l) = true
  | [] => by rw [toDL, PyData.canLayAll0]
  | x :: l => by rw [toDL, PyData.canLayAll0, toD_lay x, toDL_lay l]; rfl
end
mutual
theorem toD_depth : ∀ t : Tt, (toD t).depth = depth t + 1
  | .mk l => by rw [toD, PyData.depth, toDL_depth l, depth]
theorem toDL_depth : ∀ l : List Tt, PyData.depthAll (toDL l) = depthL l
  | [] => by rw [toDL, PyData.depthAll, depthL]
  | x :: l => by rw [toDL, PyData.depthAll, toD_depth x, toDL_depth l, depthL]
end
theorem shaped_tree {t : Tt} (h : depth t ≤ 63) : SeqAt.shaped (toD t) = true := by
  show ((toD t).canLay0 && decide ((toD t).depth ≤ 64)) = true
  rw [toD_lay, toD_depth, Bool.true_and]
  exact decide_eq_true (by omega)
mutual
theorem eqv_tree : ∀ t s : Tt, PyData.eqv (toD t) (toD s) = true ↔ t = s
  | .mk l, .mk m => by
    rw [toD, toD, PyData.eqv]
    rw [eqv_trees l m]
    constructor
    · intro e; rw [e]
    · intro e; injection e
theorem eqv_trees : ∀ l m : List Tt, PyData.eqvAll (toDL l) (toDL m) = true ↔ l = m
  | [], [] => by simp [toDL, PyData.eqvAll]
  | [], y :: m => by simp [toDL, PyData.eqvAll]
  | x :: l, [] => by simp [toDL, PyData.eqvAll]
  | x :: l, y :: m => by
    rw [toDL, toDL, PyData.eqvAll, Bool.and_eq_true, eqv_tree x y, eqv_trees l m]
    constructor
    · rintro ⟨e1, e2⟩; rw [e1, e2]
    · intro e; injection e with e1 e2; exact ⟨e1, e2⟩
end
instance : DecidableEq Tt := fun a b => decidable_of_iff (PyData.eqv (toD a) (toD b) = true) (eqv_tree a b)
theorem eqv_dec (t s : Tt) : PyData.eqv (toD t) (toD s) = decide (t = s) := by
  by_cases h : t = s
  · rw [decide_eq_true h]; exact (eqv_tree t s).mpr h
  · rw [decide_eq_false h]
    exact Bool.eq_false_iff.mpr fun e => h ((eqv_tree t s).mp e)
/-- == of two trees -/
theorem eq_trees {K : PySem.W.Frag} {H : Hp} {v u : V} {t s : Tt} {Q : VK} (h1 : TreeAt H v t) (h2 : TreeAt H u s) (d1 : depth t ≤ 63) (d2 : depth s ≤ 63) (q : Q (.bl (decide (t = s))) H) : rEqD K v u H Q :=
  ⟨_, _, TreeAt.dp t h1, TreeAt.dp s h2, shaped_tree d1, shaped_tree d2, by rw [eqv_dec]; exact q⟩
theorem ne_trees {K : PySem.W.Frag} {H : Hp} {v u : V} {t s : Tt} {Q : VK} (h1 : TreeAt H v t) (h2 : TreeAt H u s) (d1 : depth t ≤ 63) (d2 : depth s ≤ 63) (q : Q (.bl (!decide (t = s))) H) : rNeD K v u H Q :=
  ⟨_, _, TreeAt.dp t h1, TreeAt.dp s h2, shaped_tree d1, shaped_tree d2, by rw [eqv_dec]; exact q⟩
theorem nil_tree {H : Hp} {p : Addr} (h : H p = some (.lst [])) : TreeAt H (.ref p) (.mk []) := by rw [treeAt_mk]; exact ⟨p, [], rfl, h, by rw [treesAt_nil]⟩
end Hg
/-! A tree in the heap that gets one more branch; bits of numbers. -/
namespace Hg
open PySem L2
theorem knotsL_append : ∀ l m : List Tt, knotsL (l ++ m) = knotsL l + knotsL m
  | [], m => by rw [List.nil_append, knotsL]; omega
  | x :: l, m => by rw [List.cons_append, knotsL, knotsL, knotsL_append l m]; omega
theorem depthL_append : ∀ l m : List Tt, depthL (l ++ m) = max (depthL l) (depthL m)
  | [], m => by rw [List.nil_append, depthL]; omega
  | x :: l, m => by rw [List.cons_append, depthL, depthL, depthL_append l m]; omega
theorem Owns.splitV {H : Hp} : ∀ {v1 v2 : List V} {ts : List Tt} {as : List Addr}, Owns H (v1 ++ v2) ts as → ∃ t1 t2 a1 a2, ts = t1 ++ t2 ∧ as = a1 ++ a2 ∧ Owns H v1 t1 a1 ∧ Owns H v2 t2 a2
  | [], v2, ts, as, h => ⟨[], ts, [], as, rfl, rfl, by rw [owns_nil]; exact ⟨rfl, rfl⟩, h⟩
  | v :: v1, v2, [], as, h => by rw [owns_nil] at h; cases h.1
  | v :: v1, v2, t :: ts, as, h => by
    rw [owns_cons] at h
    obtain ⟨v', vs', a1, a2, e, rfl, o1, o2⟩ := h
    rw [List.cons_append] at e
    injection e with e1 e2
    subst e1 e2
    obtain ⟨t1, t2, b1, b2, rfl, rfl, k1, k2⟩ := Owns.splitV o2
    exact ⟨t :: t1, t2, a1 ++ b1, b2, rfl, (List.append_assoc _ _ _).symm, by rw [owns_cons]; exact ⟨v, v1, a1, b1, rfl, rfl, o1, k1⟩, k2⟩
section
variable {H H' : Hp} {a p : Addr} {l r : List V}
mutual
theorem Own.graft (hk : ∀ b, b ≠ a → ∀ o, H b = some o → H' b = some o) (ha : H a = some (.lst (l ++ r))) (ha' : H' a = some (.lst (l ++ .ref p :: r))) (hp : H' p = some (.lst [])) :
    ∀ {v : V} (t : Tt) {as : List Addr}, Own H v t as → as.Nodup → a ∈ as → ∃ t' as', Own H' v t' as' ∧ as'.Perm (p :: as) ∧ knots t' = knots t + 1 ∧ depth t' ≤ depth t + 1
  | v, .mk bs, as, h, nd, hm => by
    rw [own_mk] at h
    obtain ⟨b, vs, as', rfl, rfl, hb, ow⟩ := h
    obtain ⟨nb, nd'⟩ := List.nodup_cons.mp nd
    by_cases e : b = a
    · subst e
      rw [hb] at ha
      injection ha with ha
      injection ha with ha
      subst ha
      obtain ⟨t1, t2, a1, a2, rfl, rfl, o1, o2⟩ := ow.splitV
      refine ⟨.mk (t1 ++ .mk [] :: t2), b :: (a1 ++ (p :: a2)), ?_, ?_, ?_, ?_⟩
      · rw [own_mk]
        refine ⟨b, _, _, rfl, rfl, ha', Owns.append (Owns.frame _ o1 fun c hc o q => hk c (fun z => nb (by rw [← z]; exact List.mem_append_left _ hc)) o q) ?_⟩
        rw [owns_cons]
        refine ⟨.ref p, r, [p], a2, rfl, rfl, ?_, Owns.frame _ o2 fun c hc o q => hk c (fun z => nb (by rw [← z]; exact List.mem_append_right _ hc)) o q⟩
        rw [own_mk]
        exact ⟨p, [], [], rfl, rfl, hp, by rw [owns_nil]; exact ⟨rfl, rfl⟩⟩
      · refine (List.Perm.cons b (List.perm_middle (l₁ := a1) (a := p) (l₂ := a2))).trans (List.Perm.swap p b _)
      · rw [knots, knots, knotsL_append, knotsL_append, knotsL, knots, knotsL]; omega
      · rw [depth, depth, depthL_append, depthL_append, depthL, depth, depthL]; omega
    · have hm' : a ∈ as' := by
        rcases List.mem_cons.mp hm with z | z
        · exact absurd z.symm e
        · exact z
      obtain ⟨ts', as2, o, pm, k, d⟩ := Owns.graft hk ha ha' hp bs ow nd' hm'
      refine ⟨.mk ts', b :: as2, ?_, (pm.cons b).trans (List.Perm.swap p b _), ?_, ?_⟩
      · rw [own_mk]; exact ⟨b, vs, as2, rfl, rfl, hk b e _ hb, o⟩
      · rw [knots, knots, k]; omega
      · rw [depth, depth]; exact d
theorem Owns.graft (hk : ∀ b, b ≠ a → ∀ o, H b = some o → H' b = some o) (ha : H a = some (.lst (l ++ r))) (ha' : H' a = some (.lst (l ++ .ref p :: r))) (hp : H' p = some (.lst [])) :
    ∀ {vs : List V} (ts : List Tt) {as : List Addr}, Owns H vs ts as → as.Nodup → a ∈ as → ∃ ts' as', Owns H' vs ts' as' ∧ as'.Perm (p :: as) ∧ knotsL ts' = knotsL ts + 1 ∧ depthL ts' ≤ depthL ts + 1
  | vs, [], as, h, nd, hm => by rw [owns_nil] at h; rw [h.2] at hm; cases hm
  | vs, b :: bs, as, h, nd, hm => by
    rw [owns_cons] at h
    obtain ⟨v, vs', a1, a2, rfl, rfl, o1, o2⟩ := h
    obtain ⟨n1, n2, dis⟩ := List.nodup_append.mp nd
    by_cases hm1 : a ∈ a1
    · obtain ⟨t', as1, o, pm, k, d⟩ := Own.graft hk ha ha' hp b o1 n1 hm1
      refine ⟨t' :: bs, as1 ++ a2, ?_, (pm.append_right a2), ?_, ?_⟩
      · rw [owns_cons]
        exact ⟨v, vs', as1, a2, rfl, rfl, o, Owns.frame _ o2 fun c hc u q => hk c (fun z => dis a hm1 c hc z.symm) u q⟩
      · rw [knotsL, knotsL, k]; omega
      · rw [depthL, depthL]; omega
    · have hm2 : a ∈ a2 := by
        rcases List.mem_append.mp hm with z | z
        · exact absurd z hm1
        · exact z
      obtain ⟨ts', as2, o, pm, k, d⟩ := Owns.graft hk ha ha' hp bs o2 n2 hm2
      refine ⟨b :: ts', a1 ++ as2, ?_, ?_, ?_, ?_⟩
      · rw [owns_cons]
        exact ⟨v, vs', a1, as2, rfl, rfl, Own.frame _ o1 fun c hc u q => hk c (fun z => dis c hc a hm2 z) u q, o⟩
      · exact (pm.append_left a1).trans List.perm_middle
      · rw [knotsL, knotsL, k]; omega
      · rw [depthL, depthL]; omega
end
end
/-- fewer than k bits -/
def Bits (i : Int) (k : Nat) : Prop := i.natAbs < 2 ^ k
theorem Bits.mono {i : Int} {a b : Nat} (h : Bits i a) (l : a ≤ b) : Bits i b := Nat.lt_of_lt_of_le h (Nat.pow_le_pow_right (by decide) l)
theorem Bits.add {i j : Int} {a : Nat} (h : Bits i a) (k : Bits j a) : Bits (i + j) (a + 1) := by
  unfold Bits at *
  have := Int.natAbs_add_le i j
  rw [Nat.pow_succ]
  omega
theorem Bits.mul {i j : Int} {a b : Nat} (h : Bits i a) (k : Bits j b) : Bits (i * j) (a + b) := by
  unfold Bits at *
  rw [Int.natAbs_mul, Nat.pow_add]
  exact Nat.mul_lt_mul'' h k
theorem Bits.le {i j : Int} {a : Nat} (h : Bits j a) (l : i.natAbs ≤ j.natAbs) : Bits i a := Nat.lt_of_le_of_lt l h
theorem Bits.div {i j : Int} {a : Nat} (h : Bits i a) : Bits (i / j) a := h.le (Int.natAbs_ediv_le_natAbs i j)
theorem Bits.lt {i : Int} {n a : Nat} (h0 : 0 ≤ i) (h : i < n) (hn : n ≤ 2 ^ a) : Bits i a := by
  unfold Bits
  omega
theorem Bits.mulX {i j : Int} {a b : Nat} (h : Bits i a) (k : Bits j b) (l : a + b < 100000000) : CMulX i j := Hg.mulX h k l
theorem Bits.of_bits {i : Int} {k : Nat} (h : Builtin.Int.intBits i ≤ k) : Bits i k := by
  unfold Bits
  unfold Builtin.Int.intBits at h
  by_cases h0 : i = 0
  · subst h0
    exact Nat.pos_of_neZero (2 ^ k)
  · have h1 : (i == 0) = false := by simpa using h0
    rw [h1, if_neg Bool.false_ne_true] at h
    have h2 : i.natAbs ≠ 0 := by omega
    exact Nat.lt_of_lt_of_le ((Nat.log2_lt h2).mp (Nat.lt_succ_self _)) (Nat.pow_le_pow_right (by decide) h)
end Hg
/-! Written trees. -/
namespace Hg
open PySem L2
def LitE (te : TE) (t : Tt) : Prop := ∀ (σ : St) (H : Hp) (Q : VK), (∀ H' v, Same H H' → TreeAt H' v t → Q v H') → te σ H Q
def LitA (ta : TA) (ts : List Tt) : Prop := ∀ (σ : St) (H : Hp) (Q : List V → Hp → Prop), (∀ H' vs, Same H H' → TreesAt H' vs ts → Q vs H') → ta σ H Q
theorem lit_nil : LitA tNil [] := fun σ H Q h => h H [] (Same.refl H) (by rw [treesAt_nil])
theorem treesAt_c {H : Hp} {v : V} {vs : List V} {t : Tt} {ts : List Tt} (h : TreeAt H v t) (k : TreesAt H vs ts) : TreesAt H (v :: vs) (t :: ts) := by
  rw [treesAt_cons]; exact ⟨v, vs, rfl, h, k⟩
theorem lit_cons {te : TE} {ta : TA} {t : Tt} {ts : List Tt} (h : LitE te t) (k : LitA ta ts) : LitA (tCons te ta) (t :: ts) := fun σ H Q q =>
  h σ H _ fun H1 v s1 h1 => k σ H1 _ fun H2 vs s2 h2 => q H2 (v :: vs) (s1.trans s2) (treesAt_c (TreeAt.same s2 t h1) h2)
theorem lit_lst {ta : TA} {ts : List Tt} (k : LitA ta ts) (hl : ts.length ≤ lim := by decide) : LitE (tLst ta) (.mk ts) := fun σ H Q q =>
  k σ H _ fun H1 vs s1 h1 => ⟨Nat.le_of_lt (lim_line (by rw [h1.len]; exact hl)), fun p np => q _ _ (s1.trans (same_new np _)) (by
    rw [treeAt_mk]; exact ⟨p, vs, rfl, upd_same, TreesAt.same (same_new np _) ts h1⟩)⟩
theorem lit0 : LitE (tLst tNil) (.mk []) := lit_lst lit_nil
end Hg
set_option Elab.async false
set_option linter.all false
set_option maxRecDepth 100000
set_option maxHeartbeats 4000000
namespace Hg
open PySem L2
def top (i : Nat) : Stmt := PySem.Challenge.pw_headsgrow_k01_whole_worths.main.body.getD i (.Pass ⟨0, 0, 0, 0⟩)
abbrev s_is_tree : Stmt := top 7
theorem sc_is_tree : FnScope ["thing", "depth", "left", "branch"] ["thing", "depth", "left"] (defScope s_is_tree) := ⟨rfl, rfl, rfl, by decide +kernel, rfl, by decide +kernel, by decide +kernel⟩
abbrev s_asked_tree : Stmt := top 8
theorem sc_asked_tree : FnScope ["tree"] ["tree"] (defScope s_asked_tree) := ⟨rfl, rfl, rfl, by decide +kernel, rfl, by decide +kernel, by decide +kernel⟩
abbrev s_compared : Stmt := top 9
theorem sc_compared : FnScope ["one", "other", "mine", "theirs", "found"] ["one", "other"] (defScope s_compared) := ⟨rfl, rfl, rfl, by decide +kernel, rfl, by decide +kernel, by decide +kernel⟩
abbrev s_merged : Stmt := top 10
theorem sc_merged : FnScope ["one", "other", "found", "near", "far"] ["one", "other"] (defScope s_merged) := ⟨rfl, rfl, rfl, by decide +kernel, rfl, by decide +kernel, by decide +kernel⟩
abbrev s_copied : Stmt := top 11
theorem sc_copied : FnScope ["tree", "branch"] ["tree"] (defScope s_copied) := ⟨rfl, rfl, rfl, by decide +kernel, rfl, by decide +kernel, by decide +kernel⟩
abbrev s_told_of : Stmt := top 12
theorem sc_told_of : FnScope ["tree", "found", "branch"] ["tree"] (defScope s_told_of) := ⟨rfl, rfl, rfl, by decide +kernel, rfl, by decide +kernel, by decide +kernel⟩
abbrev s_told : Stmt := top 13
theorem sc_told : FnScope ["tree"] ["tree"] (defScope s_told) := ⟨rfl, rfl, rfl, by decide +kernel, rfl, by decide +kernel, by decide +kernel⟩
abbrev s_compare : Stmt := top 14
theorem sc_compare : FnScope ["one", "other", "found"] ["one", "other"] (defScope s_compare) := ⟨rfl, rfl, rfl, by decide +kernel, rfl, by decide +kernel, by decide +kernel⟩
abbrev s_knots : Stmt := top 15
theorem sc_knots : FnScope ["tree", "branch"] ["tree"] (defScope s_knots) := ⟨rfl, rfl, rfl, by decide +kernel, rfl, by decide +kernel, by decide +kernel⟩
abbrev s_asked_great : Stmt := top 16
theorem sc_asked_great : FnScope ["tree"] ["tree"] (defScope s_asked_great) := ⟨rfl, rfl, rfl, by decide +kernel, rfl, by decide +kernel, by decide +kernel⟩
abbrev s_together : Stmt := top 17
theorem sc_together : FnScope ["one", "other"] ["one", "other"] (defScope s_together) := ⟨rfl, rfl, rfl, by decide +kernel, rfl, by decide +kernel, by decide +kernel⟩
abbrev s_behind : Stmt := top 18
theorem sc_behind : FnScope ["one", "other", "second", "first", "branch"] ["one", "other"] (defScope s_behind) := ⟨rfl, rfl, rfl, by decide +kernel, rfl, by decide +kernel, by decide +kernel⟩
abbrev s__law_number : Stmt := top 20
theorem sc__law_number : FnScope ["_law_cell", "_law_at", "_law_whole", "_law_mixed", "_law_more_here"] ["_law_cell", "_law_at", "_law_whole"] (defScope s__law_number) := ⟨rfl, rfl, rfl, by decide +kernel, rfl, by decide +kernel, by decide +kernel⟩
abbrev s__law_tree : Stmt := top 21
theorem sc__law_tree : FnScope ["_law_script", "_law_most", "_law_by", "_law_cells", "_law_tree_here", "_law_own_here", "_law_at", "_law_cell", "_law_number_here", "_law_kind", "_law_spot", "_law_branch"] ["_law_script", "_law_most", "_law_by"] (defScope s__law_tree) := ⟨rfl, rfl, rfl, by decide +kernel, rfl, by decide +kernel, by decide +kernel⟩
abbrev s__law_copied : Stmt := top 22
theorem sc__law_copied : FnScope ["_law_tree_here", "_law_branch"] ["_law_tree_here"] (defScope s__law_copied) := ⟨rfl, rfl, rfl, by decide +kernel, rfl, by decide +kernel, by decide +kernel⟩
abbrev s__law_more : Stmt := top 23
theorem sc__law_more : FnScope ["_law_one", "_law_other", "_law_at", "_law_found"] ["_law_one", "_law_other"] (defScope s__law_more) := ⟨rfl, rfl, rfl, by decide +kernel, rfl, by decide +kernel, by decide +kernel⟩
abbrev s__law_told : Stmt := top 24
theorem sc__law_told : FnScope ["_law_tree_here", "_law_found", "_law_branch", "_law_at"] ["_law_tree_here"] (defScope s__law_told) := ⟨rfl, rfl, rfl, by decide +kernel, rfl, by decide +kernel, by decide +kernel⟩
abbrev s__law_is_tree : Stmt := top 25
theorem sc__law_is_tree : FnScope ["_law_found", "_law_branch"] ["_law_found"] (defScope s__law_is_tree) := ⟨rfl, rfl, rfl, by decide +kernel, rfl, by decide +kernel, by decide +kernel⟩
abbrev s__law_own : Stmt := top 27
theorem sc__law_own : FnScope ["_law_tree_here", "_law_own_here", "_law_branch"] ["_law_tree_here", "_law_own_here"] (defScope s__law_own) := ⟨rfl, rfl, rfl, by decide +kernel, rfl, by decide +kernel, by decide +kernel⟩
abbrev s__law_spoilt : Stmt := top 28
theorem sc__law_spoilt : FnScope ["_law_tree_here", "_law_own_here", "_law_sizes", "_law_knot", "_law_size"] ["_law_tree_here"] (defScope s__law_spoilt) := ⟨rfl, rfl, rfl, by decide +kernel, rfl, by decide +kernel, by decide +kernel⟩
abbrev s__law_turned : Stmt := top 29
theorem sc__law_turned : FnScope ["_law_tree_here", "_law_branch"] ["_law_tree_here"] (defScope s__law_turned) := ⟨rfl, rfl, rfl, by decide +kernel, rfl, by decide +kernel, by decide +kernel⟩
abbrev s__law_told_right : Stmt := top 30
theorem sc__law_told_right : FnScope ["_law_tree_here", "_law_handed", "_law_found", "_law_due"] ["_law_tree_here"] (defScope s__law_told_right) := ⟨rfl, rfl, rfl, by decide +kernel, rfl, by decide +kernel, by decide +kernel⟩
abbrev s__law_pair_right : Stmt := top 31
theorem sc__law_pair_right : FnScope ["_law_one", "_law_other", "_law_handed", "_law_first", "_law_second", "_law_more_here", "_law_due", "_law_found", "_law_both", "_law_whole", "_law_on", "_law_kept", "_law_again", "_law_branch"] ["_law_one", "_law_other"] (defScope s__law_pair_right) := ⟨rfl, rfl, rfl, by decide +kernel, rfl, by decide +kernel, by decide +kernel⟩
abbrev s_law : Stmt := top 32
theorem sc_law : FnScope ["_law_script", "_law_wide", "_law_time", "_law_tree_here", "_law_other", "_law_third", "_law_trees", "_law_one", "_law_far", "_law_some"] ["_law_script"] (defScope s_law) := ⟨rfl, rfl, rfl, by decide +kernel, rfl, by decide +kernel, by decide +kernel⟩
structure Txt (K : PySem.W.Frag) (mg : Str → Option Value) where
  a_is_tree : Addr
  d_is_tree : FuncData
  F_is_tree : Fun K "is_tree" "is_tree" s_is_tree a_is_tree d_is_tree
  b_is_tree : Binds K d_is_tree ["thing", "depth", "left"] []
  m_is_tree : mg "is_tree" = some (.ref a_is_tree)
  k_is_tree : PySem.W.keepIn K (.ref a_is_tree) = true
  a_asked_tree : Addr
  d_asked_tree : FuncData
  F_asked_tree : Fun K "asked_tree" "asked_tree" s_asked_tree a_asked_tree d_asked_tree
  b_asked_tree : Binds K d_asked_tree ["tree"] []
  m_asked_tree : mg "asked_tree" = some (.ref a_asked_tree)
  k_asked_tree : PySem.W.keepIn K (.ref a_asked_tree) = true
  a_compared : Addr
  d_compared : FuncData
  F_compared : Fun K "compared" "compared" s_compared a_compared d_compared
  b_compared : Binds K d_compared ["one", "other"] []
  m_compared : mg "compared" = some (.ref a_compared)
  k_compared : PySem.W.keepIn K (.ref a_compared) = true
  a_merged : Addr
  d_merged : FuncData
  F_merged : Fun K "merged" "merged" s_merged a_merged d_merged
  b_merged : Binds K d_merged ["one", "other"] []
  m_merged : mg "merged" = some (.ref a_merged)
  k_merged : PySem.W.keepIn K (.ref a_merged) = true
  a_copied : Addr
  d_copied : FuncData
  F_copied : Fun K "copied" "copied" s_copied a_copied d_copied
  b_copied : Binds K d_copied ["tree"] []
  m_copied : mg "copied" = some (.ref a_copied)
  k_copied : PySem.W.keepIn K (.ref a_copied) = true
  a_told_of : Addr
  d_told_of : FuncData
  F_told_of : Fun K "told_of" "told_of" s_told_of a_told_of d_told_of
  b_told_of : Binds K d_told_of ["tree"] []
  m_told_of : mg "told_of" = some (.ref a_told_of)
  k_told_of : PySem.W.keepIn K (.ref a_told_of) = true
  a_told : Addr
  d_told : FuncData
  F_told : Fun K "told" "told" s_told a_told d_told
  b_told : Binds K d_told ["tree"] []
  m_told : mg "told" = some (.ref a_told)
  k_told : PySem.W.keepIn K (.ref a_told) = true
  a_compare : Addr
  d_compare : FuncData
  F_compare : Fun K "compare" "compare" s_compare a_compare d_compare
  b_compare : Binds K d_compare ["one", "other"] []
  m_compare : mg "compare" = some (.ref a_compare)
  k_compare : PySem.W.keepIn K (.ref a_compare) = true
  a_knots : Addr
  d_knots : FuncData
  F_knots : Fun K "knots" "knots" s_knots a_knots d_knots
  b_knots : Binds K d_knots ["tree"] []
  m_knots : mg "knots" = some (.ref a_knots)
  k_knots : PySem.W.keepIn K (.ref a_knots) = true
  a_asked_great : Addr
  d_asked_great : FuncData
  F_asked_great : Fun K "asked_great" "asked_great" s_asked_great a_asked_great d_asked_great
  b_asked_great : Binds K d_asked_great ["tree"] []
  m_asked_great : mg "asked_great" = some (.ref a_asked_great)
  k_asked_great : PySem.W.keepIn K (.ref a_asked_great) = true
  a_together : Addr
  d_together : FuncData
  F_together : Fun K "together" "together" s_together a_together d_together
  b_together : Binds K d_together ["one", "other"] []
  m_together : mg "together" = some (.ref a_together)
  k_together : PySem.W.keepIn K (.ref a_together) = true
  a_behind : Addr
  d_behind : FuncData
  F_behind : Fun K "behind" "behind" s_behind a_behind d_behind
  b_behind : Binds K d_behind ["one", "other"] []
  m_behind : mg "behind" = some (.ref a_behind)
  k_behind : PySem.W.keepIn K (.ref a_behind) = true
  a__law_number : Addr
  d__law_number : FuncData
  F__law_number : Fun K "_law_number" "_law_number" s__law_number a__law_number d__law_number
  b__law_number : Binds K d__law_number ["_law_cell", "_law_at", "_law_whole"] []
  m__law_number : mg "_law_number" = some (.ref a__law_number)
  k__law_number : PySem.W.keepIn K (.ref a__law_number) = true
  a__law_tree : Addr
  d__law_tree : FuncData
  F__law_tree : Fun K "_law_tree" "_law_tree" s__law_tree a__law_tree d__law_tree
  b__law_tree : Binds K d__law_tree ["_law_script", "_law_most", "_law_by"] []
  m__law_tree : mg "_law_tree" = some (.ref a__law_tree)
  k__law_tree : PySem.W.keepIn K (.ref a__law_tree) = true
  a__law_copied : Addr
  d__law_copied : FuncData
  F__law_copied : Fun K "_law_copied" "_law_copied" s__law_copied a__law_copied d__law_copied
  b__law_copied : Binds K d__law_copied ["_law_tree_here"] []
  m__law_copied : mg "_law_copied" = some (.ref a__law_copied)
  k__law_copied : PySem.W.keepIn K (.ref a__law_copied) = true
  a__law_more : Addr
  d__law_more : FuncData
  F__law_more : Fun K "_law_more" "_law_more" s__law_more a__law_more d__law_more
  b__law_more : Binds K d__law_more ["_law_one", "_law_other"] []
  m__law_more : mg "_law_more" = some (.ref a__law_more)
  k__law_more : PySem.W.keepIn K (.ref a__law_more) = true
  a__law_told : Addr
  d__law_told : FuncData
  F__law_told : Fun K "_law_told" "_law_told" s__law_told a__law_told d__law_told
  b__law_told : Binds K d__law_told ["_law_tree_here"] []
  m__law_told : mg "_law_told" = some (.ref a__law_told)
  k__law_told : PySem.W.keepIn K (.ref a__law_told) = true
  a__law_is_tree : Addr
  d__law_is_tree : FuncData
  F__law_is_tree : Fun K "_law_is_tree" "_law_is_tree" s__law_is_tree a__law_is_tree d__law_is_tree
  b__law_is_tree : Binds K d__law_is_tree ["_law_found"] []
  m__law_is_tree : mg "_law_is_tree" = some (.ref a__law_is_tree)
  k__law_is_tree : PySem.W.keepIn K (.ref a__law_is_tree) = true
  a__law_own : Addr
  d__law_own : FuncData
  F__law_own : Fun K "_law_own" "_law_own" s__law_own a__law_own d__law_own
  b__law_own : Binds K d__law_own ["_law_tree_here", "_law_own_here"] []
  m__law_own : mg "_law_own" = some (.ref a__law_own)
  k__law_own : PySem.W.keepIn K (.ref a__law_own) = true
  a__law_spoilt : Addr
  d__law_spoilt : FuncData
  F__law_spoilt : Fun K "_law_spoilt" "_law_spoilt" s__law_spoilt a__law_spoilt d__law_spoilt
  b__law_spoilt : Binds K d__law_spoilt ["_law_tree_here"] []
  m__law_spoilt : mg "_law_spoilt" = some (.ref a__law_spoilt)
  k__law_spoilt : PySem.W.keepIn K (.ref a__law_spoilt) = true
  a__law_turned : Addr
  d__law_turned : FuncData
  F__law_turned : Fun K "_law_turned" "_law_turned" s__law_turned a__law_turned d__law_turned
  b__law_turned : Binds K d__law_turned ["_law_tree_here"] []
  m__law_turned : mg "_law_turned" = some (.ref a__law_turned)
  k__law_turned : PySem.W.keepIn K (.ref a__law_turned) = true
  a__law_told_right : Addr
  d__law_told_right : FuncData
  F__law_told_right : Fun K "_law_told_right" "_law_told_right" s__law_told_right a__law_told_right d__law_told_right
  b__law_told_right : Binds K d__law_told_right ["_law_tree_here"] []
  m__law_told_right : mg "_law_told_right" = some (.ref a__law_told_right)
  k__law_told_right : PySem.W.keepIn K (.ref a__law_told_right) = true
  a__law_pair_right : Addr
  d__law_pair_right : FuncData
  F__law_pair_right : Fun K "_law_pair_right" "_law_pair_right" s__law_pair_right a__law_pair_right d__law_pair_right
  b__law_pair_right : Binds K d__law_pair_right ["_law_one", "_law_other"] []
  m__law_pair_right : mg "_law_pair_right" = some (.ref a__law_pair_right)
  k__law_pair_right : PySem.W.keepIn K (.ref a__law_pair_right) = true
  a_law : Addr
  d_law : FuncData
  F_law : Fun K "law" "law" s_law a_law d_law
  b_law : Binds K d_law ["_law_script"] []
  m_law : mg "law" = some (.ref a_law)
  k_law : PySem.W.keepIn K (.ref a_law) = true
  z_len : mg "len" = none
  z_list : mg "list" = none
  z_range : mg "range" = none
  z_zip : mg "zip" = none
  z_enumerate : mg "enumerate" = none
  z_min : mg "min" = none
  z_sum : mg "sum" = none
  z_all : mg "all" = none
  z_isinstance : mg "isinstance" = none
  z_bool : mg "bool" = none
  t_MOST : Tok
  c_MOST : mg "MOST" = some (.int 300 t_MOST)
  t_DEEPEST : Tok
  c_DEEPEST : mg "DEEPEST" = some (.int 40 t_DEEPEST)
  A_HeadError : Addr
  g_HeadError : mg "HeadError" = some (.ref A_HeadError)
  k_HeadError : PySem.W.keepIn K (.ref A_HeadError) = true
  x_HeadError : PySem.W.excIn K A_HeadError [.type "ValueError", .type "Exception", .type "BaseException", .type "object"] "ValueError.__new__" = true
  sb_HeadError : PySem.W.subIn K (.ref A_HeadError) (.type "BaseException") = some true
  tt_HeadError : PySem.W.typeIn K (.ref A_HeadError) = some (.type "type")
  A_BadTree : Addr
  g_BadTree : mg "BadTree" = some (.ref A_BadTree)
  k_BadTree : PySem.W.keepIn K (.ref A_BadTree) = true
  x_BadTree : PySem.W.excIn K A_BadTree [.type "ValueError", .type "Exception", .type "BaseException", .type "object"] "ValueError.__new__" = true
  sb_BadTree : PySem.W.subIn K (.ref A_BadTree) (.type "BaseException") = some true
  tt_BadTree : PySem.W.typeIn K (.ref A_BadTree) = some (.type "type")
  A_TooGreat : Addr
  g_TooGreat : mg "TooGreat" = some (.ref A_TooGreat)
  k_TooGreat : PySem.W.keepIn K (.ref A_TooGreat) = true
  x_TooGreat : PySem.W.excIn K A_TooGreat [.type "ValueError", .type "Exception", .type "BaseException", .type "object"] "ValueError.__new__" = true
  sb_TooGreat : PySem.W.subIn K (.ref A_TooGreat) (.type "BaseException") = some true
  tt_TooGreat : PySem.W.typeIn K (.ref A_TooGreat) = some (.type "type")
section
variable {P : Program} {w : World} {K : PySem.W.Frag} {mg : Str → Option Value} {base : Heap}
/-! ### copied -/
def spCopied (n : Nat) : Sp := fun vs H Q _ => ∃ (v : V) (t : Tt), vs = [v] ∧ TreeAt H v t ∧ fit t ∧ depth t < n ∧ ∀ H' r, New H H' r t → Q r H'
theorem depthL_le : ∀ {l : List Tt} {x : Tt}, x ∈ l → depth x + 1 ≤ depthL l
  | y :: l, x, h => by
    rw [depthL]
    rcases List.mem_cons.mp h with e | h
    · rw [e]; omega
    · have := depthL_le h; omega
theorem depth_bs {l : List Tt} {x : Tt} {n : Nat} (h : depth (.mk l) < n + 1) (hx : x ∈ l) : depth x < n := by
  rw [depth] at h
  have := depthL_le hx
  omega
theorem none_left {CX : CXT} {k : Nat} {f : Addr} {fd : FuncData} {ps : List Str} {sp : Sp} (no : ∀ vs H Q E, ¬ sp vs H Q E) : FnOk P w K mg base CX k f fd ps sp :=
  ⟨fun vs H Q E h => absurd h (no vs H Q E), fun A outer s H args us vs Q E _ _ _ _ h => absurd h (no vs H Q E)⟩
theorem take_more {α : Type} : ∀ {l : List α} {i : Nat} {x : α}, l[i]? = some x → l.take (i + 1) = l.take i ++ [x]
  | [], i, x, h => by simp at h
  | a :: l, 0, x, h => by
    have e : a = x := Option.some.inj (by simpa using h)
    subst e
    rfl
  | a :: l, i + 1, x, h => by
    have ih := take_more (l := l) (i := i) (x := x) (by simpa using h)
    rw [List.take_succ_cons, ih, List.take_succ_cons, List.cons_append]
theorem ok_copied (T : Txt K mg) : ∀ n, FnOk P w K mg base CX0 n T.a_copied T.d_copied ["tree"] (spCopied n)
  | 0 => none_left fun vs H Q E ⟨v, t, _, _, _, h, _⟩ => by omega
  | n + 1 => by
    have G_copied := ok_copied T n
    refine T.F_copied.ok sc_copied (fun vs H Q E h => ?_) (fun cdv A outer s H vs Q E hr h => ?_)
    · obtain ⟨v, t, rfl, _⟩ := h; rfl
    obtain ⟨v, ⟨bs⟩, rfl, ht, hf, hd, q⟩ := h
    have R_copied : Room n _ := hr
    rw [treeAt_mk] at ht
    obtain ⟨a, xs, rfl, ha, hbs⟩ := ht
    refine ⟨_, (pss_one (ps_ret (pe_lc (own := [("branch", 1)]) (g := gName 1) (tt := tYes) rfl sc_copied.nd (pi_list (pv 0)) (blkOk_by (own := [("branch", 1)]) (N := ["tree", "branch"]) (sc := defScope s_copied) (by decide +kernel)) (fun _ _ _ _ _ => (pg_name (i := 1) sc_copied.nd rfl (Or.inl rfl))) (fun _ _ _ _ _ => pts_nil) (fun _ _ _ _ _ => (pe_call G_copied R_copied rfl T.m_copied T.k_copied T.b_copied .nil pass0 (pa_cons (pv 1) pa_nil)))))), ?_⟩
    refine ⟨_, rfl, a, rfl, ⟨xs, SqL.of ha⟩, fun D nD => ?_⟩
    refine lc_list (K := K) (a := a) (xs := xs) (fun i H' => Grow H H' D (bs.take i)) (Grow.start nD) (fun i H' _ g => SqL.of (g.same _ _ ha)) (fun i x H' hx g => ?_) (fun H' g => ?_)
    · obtain ⟨b, hb, hxb⟩ := hbs.get hx
      have mb := List.mem_of_getElem? hb
      refine ⟨rfl, ?_⟩
      refine ⟨_, rfl, x, b, rfl, TreeAt.same g.same b hxb, fit_bs hf mb, depth_bs hd mb, fun H2 r nw => ?_⟩
      obtain ⟨acc, h1, h2, h3⟩ := g.more nw
      refine ⟨acc, h1, ?_, ?_⟩
      · rw [h2, List.length_take]
        exact lim_line (Nat.le_trans (Nat.min_le_right _ _) (fit_len hf))
      · rw [take_more hb]; exact h3
    · rw [hbs.len, List.take_length] at g
      exact q _ _ g.done
theorem ok__law_copied (T : Txt K mg) : ∀ n, FnOk P w K mg base CX0 n T.a__law_copied T.d__law_copied ["_law_tree_here"] (spCopied n)
  | 0 => none_left fun vs H Q E ⟨v, t, _, _, _, h, _⟩ => by omega
  | n + 1 => by
    have G__law_copied := ok__law_copied T n
    refine T.F__law_copied.ok sc__law_copied (fun vs H Q E h => ?_) (fun cdv A outer s H vs Q E hr h => ?_)
    · obtain ⟨v, t, rfl, _⟩ := h; rfl
    obtain ⟨v, ⟨bs⟩, rfl, ht, hf, hd, q⟩ := h
    have R__law_copied : Room n _ := hr
    rw [treeAt_mk] at ht
    obtain ⟨a, xs, rfl, ha, hbs⟩ := ht
    refine ⟨_, (pss_one (ps_ret (pe_lc (own := [("_law_branch", 1)]) (g := gName 1) (tt := tYes) rfl sc__law_copied.nd (pi_list (pv 0)) (blkOk_by (own := [("_law_branch", 1)]) (N := ["_law_tree_here", "_law_branch"]) (sc := defScope s__law_copied) (by decide +kernel)) (fun _ _ _ _ _ => (pg_name (i := 1) sc__law_copied.nd rfl (Or.inl rfl))) (fun _ _ _ _ _ => pts_nil) (fun _ _ _ _ _ => (pe_call G__law_copied R__law_copied rfl T.m__law_copied T.k__law_copied T.b__law_copied .nil pass0 (pa_cons (pv 1) pa_nil)))))), ?_⟩
    refine ⟨_, rfl, a, rfl, ⟨xs, SqL.of ha⟩, fun D nD => ?_⟩
    refine lc_list (K := K) (a := a) (xs := xs) (fun i H' => Grow H H' D (bs.take i)) (Grow.start nD) (fun i H' _ g => SqL.of (g.same _ _ ha)) (fun i x H' hx g => ?_) (fun H' g => ?_)
    · obtain ⟨b, hb, hxb⟩ := hbs.get hx
      have mb := List.mem_of_getElem? hb
      refine ⟨rfl, ?_⟩
      refine ⟨_, rfl, x, b, rfl, TreeAt.same g.same b hxb, fit_bs hf mb, depth_bs hd mb, fun H2 r nw => ?_⟩
      obtain ⟨acc, h1, h2, h3⟩ := g.more nw
      refine ⟨acc, h1, ?_, ?_⟩
      · rw [h2, List.length_take]
        exact lim_line (Nat.le_trans (Nat.min_le_right _ _) (fit_len hf))
      · rw [take_more hb]; exact h3
    · rw [hbs.len, List.take_length] at g
      exact q _ _ g.done
end
section
variable {P : Program} {w : World} {K : PySem.W.Frag} {mg : Str → Option Value} {base : Heap}
/-! ### compared -/
theorem drop_get {α : Type} {l : List α} {i : Nat} {x : α} (h : l[i]? = some x) : l.drop i = x :: l.drop (i + 1) := by
  obtain ⟨hi, e⟩ := List.getElem?_eq_some_iff.mp h
  rw [← e]
  exact List.drop_eq_getElem_cons hi
def spCompared (n : Nat) : Sp := fun vs H Q _ => ∃ (v u : V) (t s : Tt), vs = [v, u] ∧ TreeAt H v t ∧ TreeAt H u s ∧ depth t < n ∧ ∀ H', Same H H' → Q (.int (cmp t s)) H'
theorem cmpL_end : ∀ {i : Nat} {bs cs : List Tt}, i = min bs.length cs.length → cmpL (bs.drop i) (cs.drop i) = (bs.length : Int) - cs.length
  | 0, [], cs, _ => by rw [List.drop_zero, List.drop_zero, cmpL_nil]; simp
  | 0, x :: a, [], _ => by rw [List.drop_zero, List.drop_zero, cmpL_nil_r]; simp
  | 0, x :: a, y :: b, h => by simp only [List.length_cons] at h; omega
  | i + 1, [], cs, h => by simp at h
  | i + 1, x :: a, [], h => by simp at h
  | i + 1, x :: a, y :: b, h => by
    have ih := cmpL_end (i := i) (bs := a) (cs := b) (by simp only [List.length_cons] at h; omega)
    rw [List.drop_succ_cons, List.drop_succ_cons, ih, List.length_cons, List.length_cons]
    omega
theorem same_tup {H H' : Hp} {Tp : Addr} {o : HO} (s : Same H H') (h : H' Tp = none) : Same H (upd H' Tp o) := s.trans (same_new h o)
theorem ok_compared (T : Txt K mg) : ∀ n, FnOk P w K mg base CX0 n T.a_compared T.d_compared ["one", "other"] (spCompared n)
  | 0 => none_left fun vs H Q E ⟨v, u, t, s, _, _, _, h, _⟩ => by omega
  | n + 1 => by
    have G_compared := ok_compared T n
    refine T.F_compared.ok sc_compared (fun vs H Q E h => ?_) (fun cdv A outer s H vs Q E hr h => ?_)
    · obtain ⟨v, u, t, s, rfl, _⟩ := h; rfl
    obtain ⟨v, u, ⟨bs⟩, ⟨cs⟩, rfl, ht, hu, hd, q⟩ := h
    have R_compared : Room n _ := hr
    rw [treeAt_mk] at ht hu
    obtain ⟨a, xs, rfl, ha, hbs⟩ := ht
    obtain ⟨b, ys, rfl, hb, hcs⟩ := hu
    rw [cmp_mk] at q
    refine ⟨_, (pss_cons (ps_for PassesOwn.never rfl (pi_zip (by rfl) T.z_zip (pa_cons (pv 0) (pa_cons (pv 1) pa_nil))) (pg_tup rfl (pgs_cons (pg_name (i := 2) sc_compared.nd rfl (Or.inl rfl)) (pgs_cons (pg_name (i := 3) sc_compared.nd rfl (Or.inl rfl)) pgs_nil))) (pss_cons (ps_set (i := 4) sc_compared.nd rfl (Or.inl rfl) (pe_call G_compared R_compared rfl T.m_compared T.k_compared T.b_compared .nil pass0 (pa_cons (pv 2) (pa_cons (pv 3) pa_nil))))
        (pss_one (ps_if (pt_cmpR op_ne (pv 4) pe_int (nomark _)) (pss_one (ps_ret (pv 4))) pss_nil))))
      (pss_one (ps_ret (pe_op op_sub (pe_callB (r := rLenS K) call_len_seqK rfl T.z_len PySem.boot_len (pa_cons (pv 0) pa_nil)) (pe_callB (r := rLenS K) call_len_seqK rfl T.z_len PySem.boot_len (pa_cons (pv 1) pa_nil)))))), ?_⟩
    refine ⟨_, rfl, _, rfl, a, b, xs, ys, rfl, SqL.of ha, SqL.of hb, ?_⟩
    refine for_it (walk_zip rfl) (fun i σ H' => Same H H' ∧ cmpL bs cs = cmpL (bs.drop i) (cs.drop i) ∧ ∃ m th f, σ = [some (.ref a), some (.ref b), m, th, f]) ⟨Same.refl H, by simp, none, none, none, rfl⟩ (fun i σ H' _ p => ⟨SqL.of (p.1 _ _ ha), SqL.of (p.1 _ _ hb)⟩) ?_ ?_
    · rintro i x σ H1 H2 hi ⟨s1, e1, m, th, f, rfl⟩ ⟨Tp, x, y, rfl, nT, rfl, hx, hy⟩
      obtain ⟨t1, ht1, hxt⟩ := hbs.get hx
      obtain ⟨t2, ht2, hyt⟩ := hcs.get hy
      have s2 : Same H (upd H1 Tp (.tup [x, y])) := same_tup s1 nT
      refine ⟨Tp, [x, y], rfl, SqT.of upd_same, rfl, x, [y], rfl, y, [], rfl, rfl, ?_⟩
      refine ⟨_, rfl, _, rfl, x, y, t1, t2, rfl, TreeAt.same s2 _ hxt, TreeAt.same s2 _ hyt, depth_bs hd (List.mem_of_getElem? ht1), fun H3 s3 => ?_⟩
      rw [drop_get ht1, drop_get ht2, cmpL_cons] at e1
      refine ⟨_, rfl, rfl, _, rfl, ?_⟩
      refine ite2 (fun c => ?_) (fun c => ?_)
      · have c' : cmp t1 t2 ≠ 0 := fun z => by simp [z] at c
        rw [if_pos c'] at e1
        exact ⟨_, rfl, by rw [← e1]; exact q _ (s2.trans s3)⟩
      · have c' : ¬ cmp t1 t2 ≠ 0 := fun z => c (by simp [z])
        rw [if_neg c'] at e1
        exact ⟨s2.trans s3, e1, _, _, _, rfl⟩
    · rintro σ H1 ⟨s1, e1, m, th, f, rfl⟩
      refine ⟨_, rfl, a, _, rfl, .inl (SqL.of (s1 _ _ ha)), _, rfl, b, _, rfl, .inl (SqL.of (s1 _ _ hb)), _, _, rfl, rfl, ?_⟩
      rw [hbs.len, hcs.len] at e1
      show Q (.int ((xs.length : Int) - (ys.length : Int))) H1
      rw [hbs.len, hcs.len, ← cmpL_end rfl, ← e1]
      exact q _ s1
/-! ### merged -/
def spMerged (n : Nat) : Sp := fun vs H Q _ => ∃ (v u : V) (l m : List Tt), vs = [v, u] ∧ TreeAt H v (.mk l) ∧ TreeAt H u (.mk m) ∧ fitL l ∧ fitL m ∧ l.length + m.length ≤ lim ∧ (∀ x, x ∈ l → depth x < n) ∧ (∀ x, x ∈ m → depth x < n) ∧
  ∀ H' r, New H H' r (.mk (merge l m)) → Q r H'
theorem at_ix {xs : List V} {i : Nat} {x : V} (h : xs[i]? = some x) : atI xs (i : Int) = some x := atI_nat h
theorem merge_len (l m : List Tt) : (merge l m).length = l.length + m.length := by
  rw [(merge_perm l m).length_eq, List.length_append]
theorem merge_stepL {l m : List Tt} {i j : Nat} {x : Tt} (hx : l[i]? = some x) (h : j = m.length ∨ ∃ y, m[j]? = some y ∧ 0 ≤ cmp x y) : merge (l.drop i) (m.drop j) = x :: merge (l.drop (i + 1)) (m.drop j) := by
  rw [drop_get hx]
  rcases h with e | ⟨y, hy, c⟩
  · rw [e, List.drop_length, merge_nil_r, merge_nil_r]
  · rw [drop_get hy]
    conv => lhs; unfold merge
    rw [if_pos c]
theorem merge_stepR {l m : List Tt} {i j : Nat} {y : Tt} (hy : m[j]? = some y) (h : i = l.length ∨ ∃ x, l[i]? = some x ∧ cmp x y < 0) : merge (l.drop i) (m.drop j) = y :: merge (l.drop i) (m.drop (j + 1)) := by
  rcases h with e | ⟨x, hx, c⟩
  · rw [e, List.drop_length, drop_get hy]; simp [merge]
  · rw [drop_get hx, drop_get hy]
    conv => lhs; unfold merge
    rw [if_neg (by omega)]
theorem ok_merged (T : Txt K mg) (n : Nat) : FnOk P w K mg base CX0 (n + 1) T.a_merged T.d_merged ["one", "other"] (spMerged n) := by
  have G_compared := ok_compared (P := P) (w := w) (base := base) T n
  have G_copied := ok_copied (P := P) (w := w) (base := base) T n
  refine T.F_merged.ok sc_merged (fun vs H Q E h => ?_) (fun cdv A outer s H vs Q E hr h => ?_)
  · obtain ⟨v, u, l, m, rfl, _⟩ := h; rfl
  obtain ⟨v, u, l, m, rfl, ht, hu, fl, fm, hlen, dl, dm, q⟩ := h
  have R_compared : Room n _ := hr
  have R_copied : Room n _ := hr
  rw [treeAt_mk] at ht hu
  obtain ⟨a, xs, rfl, ha, hbs⟩ := ht
  obtain ⟨b, ys, rfl, hb, hcs⟩ := hu
  have el := hbs.len
  have em := hcs.len
  refine ⟨_, (pss_cons (ps_set (i := 2) sc_merged.nd rfl (Or.inl rfl) (pe_lst pa_nil))
      (pss_cons (ps_set (i := 3) sc_merged.nd rfl (Or.inl rfl) pe_int)
      (pss_cons (ps_set (i := 4) sc_merged.nd rfl (Or.inl rfl) pe_int)
      (pss_cons (ps_while PassesOwn.never (PW.pt (pw_or (pt_cmpR op_lt (pv 3) (pe_callB (r := rLenS K) call_len_seqK rfl T.z_len PySem.boot_len (pa_cons (pv 0) pa_nil)) (nomark _)) (pw_or1 (pt_cmpR op_lt (pv 4) (pe_callB (r := rLenS K) call_len_seqK rfl T.z_len PySem.boot_len (pa_cons (pv 1) pa_nil)) (nomark _))))) (pss_one (ps_if (PW.pt (pw_or (pt_cmpR op_eq (pv 4) (pe_callB (r := rLenS K) call_len_seqK rfl T.z_len PySem.boot_len (pa_cons (pv 1) pa_nil)) (nomark _)) (pw_or1 (PW.pt (pw_and (pt_cmpR op_lt (pv 3) (pe_callB (r := rLenS K) call_len_seqK rfl T.z_len PySem.boot_len (pa_cons (pv 0) pa_nil)) (nomark _)) (pw_and1 (pt_cmpR op_ge (pe_call G_compared R_compared rfl T.m_compared T.k_compared T.b_compared .nil pass0 (pa_cons (pe_ix (r := rIxL K) ix_list (pv 0) (pv 3) (fun _ _ => rfl)) (pa_cons (pe_ix (r := rIxL K) ix_list (pv 1) (pv 4) (fun _ _ => rfl)) pa_nil))) pe_int (nomark _)))))))) (pss_cons (ps_expr (pe_bm PySem.F.plainAttrs_list PySem.F.slot_list_append PySem.F.type_list_append mt_append (pv 2) (pa_cons (pe_call G_copied R_copied rfl T.m_copied T.k_copied T.b_copied .nil pass0 (pa_cons (pe_ix (r := rIxL K) ix_list (pv 0) (pv 3) (fun _ _ => rfl)) pa_nil)) pa_nil)))
          (pss_one (ps_set (i := 3) sc_merged.nd rfl (Or.inl rfl) (pe_op op_add (pv 3) pe_int)))) (pss_cons (ps_expr (pe_bm PySem.F.plainAttrs_list PySem.F.slot_list_append PySem.F.type_list_append mt_append (pv 2) (pa_cons (pe_call G_copied R_copied rfl T.m_copied T.k_copied T.b_copied .nil pass0 (pa_cons (pe_ix (r := rIxL K) ix_list (pv 1) (pv 4) (fun _ _ => rfl)) pa_nil)) pa_nil)))
          (pss_one (ps_set (i := 4) sc_merged.nd rfl (Or.inl rfl) (pe_op op_add (pv 4) pe_int)))))))
      (pss_one (ps_ret (pv 2))))))), ?_⟩
  refine ⟨(by show 0 ≤ sizeLine; decide), fun D nD => ?_⟩
  refine ⟨fun k σ H' => ∃ (i j : Nat) (ts : List Tt), σ = [some (.ref a), some (.ref b), some (.ref D), some (.int i), some (.int j)] ∧ k + i + j = l.length + m.length ∧ i ≤ l.length ∧ j ≤ m.length ∧ Grow H H' D ts ∧ merge l m = ts ++ merge (l.drop i) (m.drop j),
    ⟨l.length + m.length, 0, 0, [], rfl, rfl, Nat.zero_le _, Nat.zero_le _, Grow.start nD, rfl⟩, ?_⟩
  rintro k σ H1 ⟨i, j, ts, rfl, hk, hi, hj, g, e⟩
  have ha1 := g.same _ _ ha
  have hb1 := g.same _ _ hb
  have tl : ts.length + (l.length - i) + (m.length - j) = l.length + m.length := by
    have := congrArg List.length e
    rw [List.length_append, merge_len, merge_len, List.length_drop, List.length_drop] at this
    omega
  have goL : ∀ {x : Tt}, l[i]? = some x → ∃ xv, xs[i]? = some xv ∧ ∀ H2, Same H1 H2 → TreeAt H2 xv x ∧ H2 D = H1 D ∧ ∀ H3 r, New H2 H3 r x → ∃ acc, H3 D = some (.lst acc) ∧ acc.length < sizeLine ∧ Grow H (upd H3 D (.lst (acc ++ [r]))) D (ts ++ [x]) := fun {x} hx => by
    obtain ⟨xv, h1, h2⟩ := hbs.get' hx
    refine ⟨xv, h1, fun H2 s2 => ⟨TreeAt.same (g.same.trans s2) _ h2, ?_, fun H3 r nw => ?_⟩⟩
    · obtain ⟨acc, k1, _⟩ := g.at_
      rw [k1]; exact s2 _ _ k1
    obtain ⟨acc, k1, k2, k3⟩ := (g.step s2).more nw
    exact ⟨acc, k1, lim_line (by have := (List.getElem?_eq_some_iff.mp hx).1; omega), k3⟩
  have goR : ∀ {x : Tt}, m[j]? = some x → ∃ xv, ys[j]? = some xv ∧ ∀ H2, Same H1 H2 → TreeAt H2 xv x ∧ H2 D = H1 D ∧ ∀ H3 r, New H2 H3 r x → ∃ acc, H3 D = some (.lst acc) ∧ acc.length < sizeLine ∧ Grow H (upd H3 D (.lst (acc ++ [r]))) D (ts ++ [x]) := fun {x} hx => by
    obtain ⟨xv, h1, h2⟩ := hcs.get' hx
    refine ⟨xv, h1, fun H2 s2 => ⟨TreeAt.same (g.same.trans s2) _ h2, ?_, fun H3 r nw => ?_⟩⟩
    · obtain ⟨acc, k1, _⟩ := g.at_
      rw [k1]; exact s2 _ _ k1
    obtain ⟨acc, k1, k2, k3⟩ := (g.step s2).more nw
    exact ⟨acc, k1, lim_line (by have := (List.getElem?_eq_some_iff.mp hx).1; omega), k3⟩
  obtain ⟨acc0, hD1, _⟩ := g.at_
  -- near < len(one) or far < len(other)
  refine cut_t (fun b H2 => b = decide (i < l.length ∨ j < m.length) ∧ H2 = H1) (fun Q' hQ' => ?_) ?_
  · refine ⟨_, rfl, _, rfl, a, xs, rfl, .inl (SqL.of ha1), _, _, rfl, rfl, _, rfl, ?_⟩
    refine ite2 (fun c => ?_) (fun c => ?_)
    · refine hQ' _ _ ⟨?_, rfl⟩
      have c' : (i : Int) < (xs.length : Nat) := of_decide_eq_true c
      exact (decide_eq_true (by omega)).symm
    · have c' : ¬ (i : Int) < (xs.length : Nat) := of_decide_eq_false (Bool.eq_false_iff.mpr c)
      refine ⟨_, rfl, _, rfl, b, ys, rfl, .inl (SqL.of hb1), _, _, rfl, rfl, _, rfl, hQ' _ _ ⟨?_, rfl⟩⟩
      refine decide_eq_decide.mpr ?_
      omega
  rintro b2 H2 ⟨rfl, rfl⟩
  refine ite2 (fun c => ?_) (fun c => ?_)
  · have c' := of_decide_eq_true c
    refine ⟨fun σ' H' => ∃ m', m' < k ∧ ∃ (i j : Nat) (ts : List Tt), σ' = [some (.ref a), some (.ref b), some (.ref D), some (.int i), some (.int j)] ∧ m' + i + j = l.length + m.length ∧ i ≤ l.length ∧ j ≤ m.length ∧ Grow H H' D ts ∧ merge l m = ts ++ merge (l.drop i) (m.drop j), fun _ _ h => h, ?_⟩
    -- which one
    refine cut_if (fun b H3 => Same H2 H3 ∧ ((b = true ∧ ∃ x, l[i]? = some x ∧ merge (l.drop i) (m.drop j) = x :: merge (l.drop (i + 1)) (m.drop j)) ∨ (b = false ∧ ∃ x, m[j]? = some x ∧ merge (l.drop i) (m.drop j) = x :: merge (l.drop i) (m.drop (j + 1))))) (fun Q' hQ' => ?_) ?_
    · refine ⟨_, rfl, _, rfl, b, ys, rfl, .inl (SqL.of hb1), rfl, _, rfl, ?_⟩
      refine ite2 (fun c1 => ?_) (fun c1 => ?_)
      · have e1 : (V.int (j : Int)) = V.int ((ys.length : Nat) : Int) := of_decide_eq_true c1
        injection e1 with e1
        have hl : i < l.length := by omega
        exact hQ' _ _ ⟨Same.refl _, .inl ⟨rfl, _, List.getElem?_eq_getElem hl, merge_stepL (List.getElem?_eq_getElem hl) (.inl (by omega))⟩⟩
      · have e1 : ¬ (V.int (j : Int)) = V.int ((ys.length : Nat) : Int) := of_decide_eq_false (Bool.eq_false_iff.mpr c1)
        have hj2 : j < m.length := by
          have : ¬ j = ys.length := fun z => e1 (by rw [z])
          omega
        refine ⟨_, rfl, _, rfl, a, xs, rfl, .inl (SqL.of ha1), _, _, rfl, rfl, _, rfl, ?_⟩
        refine ite2 (fun c2 => ?_) (fun c2 => ?_)
        · have c3 : (i : Int) < ((xs.length : Nat) : Int) := of_decide_eq_true c2
          have hl : i < l.length := by omega
          obtain ⟨xv, hxv, htx⟩ := hbs.get' (List.getElem?_eq_getElem hl)
          obtain ⟨yv, hyv, hty⟩ := hcs.get' (List.getElem?_eq_getElem hj2)
          refine ⟨_, rfl, _, rfl, a, xs, _, _, rfl, rfl, SqL.of ha1, atI_nat hxv, _, rfl, _, rfl, b, ys, _, _, rfl, rfl, SqL.of hb1, atI_nat hyv, xv, yv, l[i], m[j], rfl, TreeAt.same g.same _ htx, TreeAt.same g.same _ hty, dl _ (List.getElem_mem hl), fun H3 s3 => ?_⟩
          refine ⟨_, _, rfl, rfl, _, rfl, ?_⟩
          by_cases cc : 0 ≤ cmp l[i] m[j]
          · exact hQ' _ _ ⟨s3, .inl ⟨decide_eq_true cc, _, List.getElem?_eq_getElem hl, merge_stepL (List.getElem?_eq_getElem hl) (.inr ⟨_, List.getElem?_eq_getElem hj2, cc⟩)⟩⟩
          · exact hQ' _ _ ⟨s3, .inr ⟨decide_eq_false cc, _, List.getElem?_eq_getElem hj2, merge_stepR (List.getElem?_eq_getElem hj2) (.inr ⟨_, List.getElem?_eq_getElem hl, by omega⟩)⟩⟩
        · have c3 : ¬ (i : Int) < ((xs.length : Nat) : Int) := of_decide_eq_false (Bool.eq_false_iff.mpr c2)
          exact hQ' _ _ ⟨Same.refl _, .inr ⟨rfl, _, List.getElem?_eq_getElem hj2, merge_stepR (List.getElem?_eq_getElem hj2) (.inl (by omega))⟩⟩
    · rintro b3 H3 ⟨s3, ⟨rfl, x, hx, hm⟩ | ⟨rfl, x, hx, hm⟩⟩
      · obtain ⟨xv, hxv, go⟩ := goL hx
        obtain ⟨htx, hD3, gr⟩ := go H3 s3
        refine iteT ⟨_, rfl, .inl ⟨rfl, _, SqL.of (hD3.trans hD1)⟩, _, rfl, _, rfl, a, xs, _, _, rfl, rfl, SqL.of (s3 _ _ ha1), atI_nat hxv, xv, x, rfl, htx, fitL_iff.mp fl _ (List.mem_of_getElem? hx), dl _ (List.mem_of_getElem? hx), fun H4 r nw => ?_⟩
        obtain ⟨acc, k1, k2, k3⟩ := gr H4 r nw
        refine ⟨D, acc, r, rfl, rfl, k1, k2, _, rfl, _, _, rfl, rfl, k - 1, ?_⟩
        have := (List.getElem?_eq_some_iff.mp hx).1
        refine ⟨by omega, i + 1, j, ts ++ [x], ?_, by omega, by omega, by omega, k3, by rw [e, hm]; simp⟩
        show [_, _, _, some (V.int ((i : Int) + 1)), _] = _
        congr 1
      · obtain ⟨xv, hxv, go⟩ := goR hx
        obtain ⟨htx, hD3, gr⟩ := go H3 s3
        refine iteF ⟨_, rfl, .inl ⟨rfl, _, SqL.of (hD3.trans hD1)⟩, _, rfl, _, rfl, b, ys, _, _, rfl, rfl, SqL.of (s3 _ _ hb1), atI_nat hxv, xv, x, rfl, htx, fitL_iff.mp fm _ (List.mem_of_getElem? hx), dm _ (List.mem_of_getElem? hx), fun H4 r nw => ?_⟩
        obtain ⟨acc, k1, k2, k3⟩ := gr H4 r nw
        refine ⟨D, acc, r, rfl, rfl, k1, k2, _, rfl, _, _, rfl, rfl, k - 1, ?_⟩
        have := (List.getElem?_eq_some_iff.mp hx).1
        refine ⟨by omega, i, j + 1, ts ++ [x], ?_, by omega, by omega, by omega, k3, by rw [e, hm]; simp⟩
        show [_, _, _, _, some (V.int ((j : Int) + 1))] = _
        congr 1
  · have c' : ¬ (i < l.length ∨ j < m.length) := of_decide_eq_false (Bool.eq_false_iff.mpr c)
    have e1 : i = l.length := by omega
    have e2 : j = m.length := by omega
    rw [e1, e2, List.drop_length, List.drop_length, merge_nil_r, List.append_nil] at e
    refine ⟨_, rfl, q _ _ ?_⟩
    rw [e]; exact g.done
end
section
variable {P : Program} {w : World} {K : PySem.W.Frag} {mg : Str → Option Value} {base : Heap}
/-! ### told_of -/
theorem toldL_len (l acc : List Tt) : (toldL acc l).length = acc.length + l.length := by
  rw [(toldL_perm l acc).length_eq, List.length_append, List.length_map]
theorem depthL_iff : ∀ {l : List Tt} {n : Nat}, depthL l ≤ n ↔ ∀ x, x ∈ l → depth x + 1 ≤ n
  | [], n => by simp [depthL]
  | x :: l, n => by
    rw [depthL]
    have ih := depthL_iff (l := l) (n := n)
    constructor
    · intro h y hy
      rcases List.mem_cons.mp hy with e | hy
      · rw [e]; omega
      · exact ih.mp (by omega) y hy
    · intro h
      have h1 := h x List.mem_cons_self
      have h2 := ih.mpr fun y hy => h y (List.mem_cons_of_mem _ hy)
      omega
theorem mem_toldL {l : List Tt} {x : Tt} (h : x ∈ toldL [] l) : ∃ y, y ∈ l ∧ x = told y := by
  have := (toldL_perm l []).mem_iff.mp h
  rw [List.nil_append] at this
  obtain ⟨y, hy, e⟩ := List.mem_map.mp this
  exact ⟨y, hy, e.symm⟩
theorem depth_told_le (t : Tt) : depth (told t) ≤ depth t := by
  induction t using Tt.ind with
  | h l ih =>
    rw [told_mk, depth, depth]
    refine depthL_iff.mpr fun x hx => ?_
    obtain ⟨y, hy, e⟩ := mem_toldL hx
    subst e
    have := ih y hy
    have := depthL_le hy
    omega
theorem fit_told (t : Tt) (h : fit t) : fit (told t) := by
  induction t using Tt.ind with
  | h l ih =>
    rw [told_mk, fit_mk]
    refine ⟨by rw [toldL_len]; have := fit_len h; simp only [List.length_nil]; omega, fitL_iff.mpr fun x hx => ?_⟩
    obtain ⟨y, hy, e⟩ := mem_toldL hx
    subst e
    exact ih y hy (fit_bs h hy)
theorem depth_told {t : Tt} {n : Nat} (h : depth t < n) : depth (told t) < n := Nat.lt_of_le_of_lt (depth_told_le t) h
theorem toldL_more {l : List Tt} {i : Nat} {b : Tt} (h : l[i]? = some b) : toldL [] (l.take (i + 1)) = merge (toldL [] (l.take i)) [told b] := by
  rw [take_more h, toldL_append, toldL_cons, toldL_nil, merge_one]
def spToldOf (n : Nat) : Sp := fun vs H Q _ => ∃ (v : V) (t : Tt), vs = [v] ∧ TreeAt H v t ∧ fit t ∧ depth t < n ∧ ∀ H' r, New H H' r (told t) → Q r H'
theorem ok_told_of (T : Txt K mg) : ∀ n, FnOk P w K mg base CX0 (n + 2) T.a_told_of T.d_told_of ["tree"] (spToldOf n)
  | 0 => none_left fun vs H Q E ⟨v, t, _, _, _, h, _⟩ => by omega
  | n + 1 => by
    have G_told_of := ok_told_of T n
    have G_merged := ok_merged (P := P) (w := w) (base := base) T n
    refine T.F_told_of.ok sc_told_of (fun vs H Q E h => ?_) (fun cdv A outer s H vs Q E hr h => ?_)
    · obtain ⟨v, t, rfl, _⟩ := h; rfl
    obtain ⟨v, ⟨bs⟩, rfl, ht, hf, hd, q⟩ := h
    have R_told_of : Room (n + 2) _ := hr
    have R_merged : Room (n + 1) _ := hr.mono (by omega)
    rw [treeAt_mk] at ht
    rw [told_mk] at q
    obtain ⟨a, xs, rfl, ha, hbs⟩ := ht
    have flen := fit_len hf
    refine ⟨_, (pss_cons (ps_set (i := 1) sc_told_of.nd rfl (Or.inl rfl) (pe_lst pa_nil))
      (pss_cons (ps_for PassesOwn.never rfl (pi_list (pv 0)) (pg_name (i := 2) sc_told_of.nd rfl (Or.inl rfl)) (pss_one (ps_set (i := 1) sc_told_of.nd rfl (Or.inl rfl) (pe_call G_merged R_merged rfl T.m_merged T.k_merged T.b_merged .nil pass0 (pa_cons (pv 1) (pa_cons (pe_lst (pa_cons (pe_call G_told_of R_told_of rfl T.m_told_of T.k_told_of T.b_told_of .nil pass0 (pa_cons (pv 2) pa_nil)) pa_nil)) pa_nil))))))
      (pss_one (ps_ret (pv 1))))), ?_⟩
    refine ⟨(by show 0 ≤ sizeLine; decide), fun D nD => ?_⟩
    refine ⟨_, rfl, a, rfl, ⟨xs, SqL.of (same_new nD _ _ _ ha)⟩, ?_⟩
    refine for_it (walk_list (xs := xs)) (fun i σ H' => ∃ r o, σ = [some (.ref a), some r, o] ∧ New H H' r (.mk (toldL [] (bs.take i)))) ⟨_, none, rfl, (Grow.start nD).done⟩ (fun i σ H' _ p => ?_) ?_ ?_
    · obtain ⟨r, o, _, nw⟩ := p
      exact SqL.of (nw.1 _ _ ha)
    · rintro i x σ H1 H2 hi ⟨r, o, rfl, nw⟩ ⟨rfl, hx⟩
      obtain ⟨b, hb, hxb⟩ := hbs.get hx
      have mb := List.mem_of_getElem? hb
      have hib := (List.getElem?_eq_some_iff.mp hb).1
      refine ⟨_, rfl, _, rfl, x, b, rfl, TreeAt.same nw.1 b hxb, fit_bs hf mb, depth_bs hd mb, fun H3 r2 nw2 => ?_⟩
      refine ⟨(by show 1 ≤ sizeLine; decide), fun p np => ?_⟩
      have s4 : Same H3 (upd H3 p (.lst [r2])) := same_new np _
      have fl1 : fitL (toldL [] (bs.take i)) := fitL_iff.mpr fun y hy => by
        obtain ⟨z, hz, e⟩ := mem_toldL hy
        rw [e]
        exact fit_told z (fit_bs hf (List.mem_of_mem_take hz))
      have dl1 : ∀ y, y ∈ toldL [] (bs.take i) → depth y < n := fun y hy => by
        obtain ⟨z, hz, e⟩ := mem_toldL hy
        rw [e]
        exact depth_told (depth_bs hd (List.mem_of_mem_take hz))
      refine ⟨r, .ref p, toldL [] (bs.take i), [told b], rfl, TreeAt.same (nw2.1.trans s4) _ nw.at_, ?_, fl1, ?_, ?_, dl1, ?_, fun H5 r3 nw3 => ?_⟩
      · rw [treeAt_mk]
        exact ⟨p, [r2], rfl, upd_same, TreesAt.one (TreeAt.same s4 _ nw2.at_)⟩
      · exact fitL_iff.mpr fun y hy => by
          rw [List.mem_singleton] at hy
          rw [hy]
          exact fit_told b (fit_bs hf mb)
      · rw [toldL_len, List.length_take, List.length_singleton, List.length_nil]
        omega
      · intro y hy
        rw [List.mem_singleton] at hy
        rw [hy]
        exact depth_told (depth_bs hd mb)
      · refine ⟨r3, some x, rfl, ?_⟩
        rw [toldL_more hb]
        exact nw3.of (nw.1.trans (nw2.1.trans s4))
    · rintro σ H1 ⟨r, o, rfl, nw⟩
      rw [hbs.len, List.take_length] at nw
      exact ⟨_, rfl, q _ _ nw⟩
/-! ### knots -/
def spKnots (n : Nat) : Sp := fun vs H Q _ => ∃ (v : V) (t : Tt), vs = [v] ∧ TreeAt H v t ∧ fit t ∧ depth t < n ∧ ∀ H', Same H H' → Q (.int (knots t)) H'
theorem knotsL_sum : ∀ l : List Tt, ((l.map fun x => (knots x : Int)).sum : Int) = knotsL l
  | [] => by simp [knotsL]
  | x :: l => by rw [List.map_cons, List.sum_cons, knotsL_sum l, knotsL]; omega
/-- a new list at D that holds what f says of the branches gone through -/
def Fill (H H' : Hp) (D : Addr) (vs : List V) : Prop := Same H H' ∧ H D = none ∧ H' D = some (.lst vs)
theorem Fill.start {H : Hp} {D : Addr} (h : H D = none) : Fill H (upd H D (.lst [])) D [] := ⟨same_new h _, h, upd_same⟩
theorem Fill.more {H H' H2 : Hp} {D : Addr} {vs : List V} {v : V} (g : Fill H H' D vs) (s : Same H' H2) : H2 D = some (.lst vs) ∧ Fill H (upd H2 D (.lst (vs ++ [v]))) D (vs ++ [v]) :=
  ⟨s _ _ g.2.2, fun b u q => by rw [upd_ne (ne_of_none q g.2.1)]; exact s _ _ (g.1 _ _ q), g.2.1, upd_same⟩
theorem ok_knots (T : Txt K mg) : ∀ n, FnOk P w K mg base CX0 n T.a_knots T.d_knots ["tree"] (spKnots n)
  | 0 => none_left fun vs H Q E ⟨v, t, _, _, _, h, _⟩ => by omega
  | n + 1 => by
    have G_knots := ok_knots T n
    refine T.F_knots.ok sc_knots (fun vs H Q E h => ?_) (fun cdv A outer s H vs Q E hr h => ?_)
    · obtain ⟨v, t, rfl, _⟩ := h; rfl
    obtain ⟨v, ⟨bs⟩, rfl, ht, hf, hd, q⟩ := h
    have R_knots : Room n _ := hr
    rw [treeAt_mk] at ht
    obtain ⟨a, xs, rfl, ha, hbs⟩ := ht
    refine ⟨_, (pss_one (ps_ret (pe_op op_add pe_int (pe_callB (r := rSum K) (cr_sum rfl) (by rfl) T.z_sum (by decide +kernel) (pa_cons (pe_lc (own := [("branch", 1)]) (g := gName 1) (tt := tYes) rfl sc_knots.nd (pi_list (pv 0)) (blkOk_by (own := [("branch", 1)]) (N := ["tree", "branch"]) (sc := defScope s_knots) (by decide +kernel)) (fun _ _ _ _ _ => (pg_name (i := 1) sc_knots.nd rfl (Or.inl rfl))) (fun _ _ _ _ _ => pts_nil) (fun _ _ _ _ _ => (pe_call G_knots R_knots rfl T.m_knots T.k_knots T.b_knots .nil pass0 (pa_cons (pv 1) pa_nil)))) pa_nil))))), ?_⟩
    refine ⟨_, rfl, a, rfl, ⟨xs, SqL.of ha⟩, fun D nD => ?_⟩
    refine lc_it (walk_list (xs := xs)) (fun i H' => Fill H H' D (((bs.take i).map fun x => (knots x : Int)).map V.int)) (Fill.start nD) (fun i H' _ g => SqL.of (g.1 _ _ ha)) ?_ ?_
    · rintro i x H1 H2 hi g ⟨rfl, hx⟩
      obtain ⟨b, hb, hxb⟩ := hbs.get hx
      have mb := List.mem_of_getElem? hb
      refine ⟨rfl, _, rfl, x, b, rfl, TreeAt.same g.1 b hxb, fit_bs hf mb, depth_bs hd mb, fun H3 s3 => ?_⟩
      obtain ⟨h1, h2⟩ := g.more (v := .int (knots b)) s3
      refine ⟨_, h1, ?_, ?_⟩
      · rw [List.length_map, List.length_map, List.length_take]
        exact lim_line (Nat.le_trans (Nat.min_le_right _ _) (fit_len hf))
      · rw [take_more hb, List.map_append, List.map_append]; exact h2
    · intro H1 g
      rw [hbs.len, List.take_length] at g
      refine ⟨D, _, rfl, SqL.of g.2.2, _, _, rfl, rfl, ?_⟩
      show Q (.int (1 + (bs.map fun x => (knots x : Int)).sum)) H1
      rw [knotsL_sum]
      have := q H1 g.1
      rw [knots] at this
      exact this
end
section
variable {P : Program} {w : World} {K : PySem.W.Frag} {mg : Str → Option Value} {base : Heap}
/-! ### is_tree -/
/-- all but l is kept -/
def Kept (l : Addr) (H H' : Hp) : Prop := ∀ b o, b ≠ l → H b = some o → H' b = some o
def spIsTree (n : Nat) : Sp := fun vs H Q _ => ∃ (H0 : Hp) (v : V) (th : Th) (d : Nat) (L : Int) (l : Addr), vs = [v, .int d, .ref l] ∧ ThAt H0 v th ∧ Same H0 H ∧ H0 l = none ∧ H l = some (.lst [.int L]) ∧ fitTh th ∧ 42 ≤ d + n ∧ d ≤ 41 ∧
  ∀ H', Kept l H H' → H' l = some (.lst [.int (isT th d L).2]) → Q (.bl (isT th d L).1) H'
theorem Kept.same {H0 H H' : Hp} {l : Addr} (k : Kept l H H') (s : Same H0 H) (n : H0 l = none) : Same H0 H' := fun b o e => k b o (ne_of_none e n) (s b o e)
theorem ok_is_tree (T : Txt K mg) : ∀ n, FnOk P w K mg base CX0 n T.a_is_tree T.d_is_tree ["thing", "depth", "left"] (spIsTree n)
  | 0 => none_left fun vs H Q E ⟨H0, v, th, d, L, l, _, _, _, _, _, _, h1, h2, _⟩ => by omega
  | n + 1 => by
    have G_is_tree := ok_is_tree T n
    refine T.F_is_tree.ok sc_is_tree (fun vs H Q E h => ?_) (fun cdv A outer s H vs Q E hr h => ?_)
    · obtain ⟨H0, v, th, d, L, l, rfl, _⟩ := h; rfl
    obtain ⟨H0, v, th, d, L, l, rfl, ht, s0, nl, hl, hf, hn, hd, q⟩ := h
    have R_is_tree : Room n _ := hr
    have ht1 := ThAt.same s0 th ht
    refine ⟨_, (pss_cons (ps_if (PW.pt (pw_or (pt_not (pt_val (pe_callB (r := rIsi K) call_isi (by rfl) T.z_isinstance (by decide +kernel) (pa_cons (pv 0) (pa_cons (pe_bltn (v := .ty "list") (u := .type "list") (by rfl) T.z_list (by decide +kernel) rfl) pa_nil))))) (pw_or (pt_cmpR op_gt (pv 1) (pe_glob (v := .int 40) rfl T.c_DEEPEST ⟨_, rfl⟩) (nomark _)) (pw_or1 (pt_cmpR op_lt (pe_ix (r := rIxL K) ix_list (pv 2) pe_int (fun _ _ => rfl)) pe_int (nomark _)))))) (pss_one (ps_ret pe_bl)) pss_nil)
      (pss_cons (ps_asg (pe_op op_sub (pe_ix (r := rIxL K) ix_list (pv 2) pe_int (fun _ _ => rfl)) pe_int) (pg_sub (pv 2) pe_int set_list))
      (pss_one (ps_ret (pe_callB (r := rAll K) (cr_all rfl) (by rfl) T.z_all (by decide +kernel) (pa_cons (pe_lc (own := [("branch", 3)]) (g := gName 3) (tt := tYes) rfl sc_is_tree.nd (pi_list (pv 0)) (blkOk_by (own := [("branch", 3)]) (N := ["thing", "depth", "left", "branch"]) (sc := defScope s_is_tree) (by decide +kernel)) (fun _ _ _ _ _ => (pg_name (i := 3) sc_is_tree.nd rfl (Or.inl rfl))) (fun _ _ _ _ _ => pts_nil) (fun _ _ _ _ _ => (pe_call G_is_tree R_is_tree rfl T.m_is_tree T.k_is_tree T.b_is_tree .nil pass0 (pa_cons (pv 3) (pa_cons (pe_op op_add (pv 1) pe_int) (pa_cons (pv 2) pa_nil)))))) pa_nil)))))), ?_⟩
    cases th with
    | no =>
      rw [thAt_no] at ht1
      obtain ⟨ty, h1, h2⟩ := Leaf.isi (K := K) ht1
      refine ⟨_, rfl, _, _, ty, _, false, rfl, ClsV.ty _, h1, h2, _, rfl, iteT ?_⟩
      refine iteT ?_
      rw [isT_no] at q
      exact q H (fun _ _ _ e => e) hl
    | li bs =>
      rw [thAt_li] at ht ht1
      obtain ⟨a, xs, rfl, ha0, hbs0⟩ := ht
      obtain ⟨a', xs', ea, ha, hbs⟩ := ht1
      cases ea
      have exs : xs' = xs := by have := s0 _ _ ha0; rw [this] at ha; injection ha with ha; injection ha with ha; exact ha.symm
      subst exs
      rw [fitTh_li] at hf
      obtain ⟨h1, h2⟩ := list_isi (K := K) ha
      refine ⟨_, rfl, _, _, _, _, true, rfl, ClsV.ty _, h1, h2, _, rfl, iteF ?_⟩
      refine cut_t (fun b H' => H' = H ∧ b = decide (40 < d ∨ L < 1)) (fun Q' hQ' => ?_) ?_
      · refine ⟨_, rfl, _, _, rfl, rfl, _, rfl, ?_⟩
        refine ite2 (fun c => ?_) (fun c => ?_)
        · have c' : (40 : Int) < (d : Int) := of_decide_eq_true c
          exact hQ' _ _ ⟨rfl, (decide_eq_true (by omega)).symm⟩
        · have c' : ¬ (40 : Int) < (d : Int) := of_decide_eq_false (Bool.eq_false_iff.mpr c)
          refine ⟨_, rfl, l, _, 0, _, rfl, rfl, SqL.of hl, rfl, _, _, rfl, rfl, _, rfl, hQ' _ _ ⟨rfl, ?_⟩⟩
          refine decide_eq_decide.mpr ?_
          omega
      rintro b1 H1 ⟨rfl, rfl⟩
      rw [isT_li] at q
      refine ite2 (fun c => ?_) (fun c => ?_)
      · rw [if_pos (of_decide_eq_true c)] at q
        exact q H1 (fun _ _ _ e => e) hl
      · have c' := of_decide_eq_false (Bool.eq_false_iff.mpr c)
        rw [if_neg c'] at q
        -- left[0] = left[0] - 1
        refine ⟨_, rfl, l, _, 0, _, rfl, rfl, SqL.of hl, rfl, _, _, rfl, rfl, _, rfl, l, _, 0, 0, rfl, rfl, hl, rfl, ?_⟩
        have k1 : Kept l H1 (upd H1 l (.lst ([V.int L].set 0 (.int (L - 1))))) := fun b o nb e => by rw [upd_ne nb]; exact e
        have l1 : (upd H1 l (.lst ([V.int L].set 0 (.int (L - 1))))) l = some (.lst [.int (L - 1)]) := upd_same
        generalize upd H1 l (.lst ([V.int L].set 0 (.int (L - 1)))) = H2 at k1 l1 ⊢
        have s2 : Same H0 H2 := k1.same s0 nl
        refine ⟨_, rfl, a, rfl, ⟨xs', SqL.of (s2 _ _ ha0)⟩, fun D nD => ?_⟩
        have nDl : D ≠ l := fun e => by rw [e, l1] at nD; cases nD
        refine lc_it (walk_list (xs := xs')) (fun i H' => Kept l H2 H' ∧ H' l = some (.lst [.int (isTl (bs.take i) (d + 1) (L - 1)).2]) ∧ H' D = some (.lst ((isTl (bs.take i) (d + 1) (L - 1)).1.map V.bl))) ?_ (fun i H' _ g => SqL.of (g.1.same s2 nl _ _ ha0)) ?_ ?_
        · refine ⟨fun b o nb e => by rw [upd_ne (ne_of_none e nD)]; exact e, ?_, ?_⟩
          · rw [upd_ne (Ne.symm nDl), List.take_zero, isTl_nil]; exact l1
          · rw [upd_same, List.take_zero, isTl_nil]; rfl
        · rintro i x H3 H4 hi ⟨g1, g2, g3⟩ ⟨rfl, hx⟩
          obtain ⟨b, hb, hxb⟩ := hbs0.get hx
          have mb := List.mem_of_getElem? hb
          have hib := (List.getElem?_eq_some_iff.mp hb).1
          refine ⟨rfl, _, rfl, _, rfl, _, _, rfl, rfl, _, rfl, H0, x, b, d + 1, _, l, rfl, hxb, g1.same s2 nl, nl, g2, fitThL_mem hf.2 b mb, by omega, by omega, fun H5 k5 l5 => ?_⟩
          refine ⟨_, k5 _ _ nDl g3, ?_, fun b o nb e => ?_, ?_, ?_⟩
          · rw [List.length_map, isTl_len, List.length_take]
            exact lim_line (by omega)
          · by_cases hD : b = D
            · rw [hD] at e; rw [nD] at e; cases e
            · rw [upd_ne hD]; exact k5 _ _ nb (g1 _ _ nb e)
          · rw [upd_ne (Ne.symm nDl), take_more hb, isTl_snoc]; exact l5
          · rw [upd_same, take_more hb, isTl_snoc, List.map_append]; rfl
        · rintro H3 ⟨g1, g2, g3⟩
          have e1 : bs.take xs'.length = bs := by rw [hbs.len, List.take_length]
          rw [e1] at g2 g3
          exact ⟨D, _, rfl, SqL.of g3, q H3 (fun b o nb e => g1 b o nb (k1 b o nb e)) g2⟩
/-! ### asked_tree -/
def spAskedTree (A : Addr) : Sp := fun vs H Q E => ∃ v, vs = [v] ∧ ((∃ t, TreeAt H v t ∧ okT t ∧ ∀ H', Same H H' → Q .non H') ∨ (Bad H v ∧ ∀ H', Same H H' → E (.ref A) none H'))
theorem ok_asked_tree (T : Txt K mg) : FnOk P w K mg base (L2.CX P w) 43 T.a_asked_tree T.d_asked_tree ["tree"] (spAskedTree T.A_BadTree) := by
  have G_is_tree := ok_is_tree (P := P) (w := w) (base := base) T 42
  refine T.F_asked_tree.okX sc_asked_tree (fun vs H Q E h => ?_) (fun cdv A outer s H vs Q E hr h => ?_)
  · obtain ⟨v, rfl, _⟩ := h; rfl
  obtain ⟨v, rfl, h⟩ := h
  have R_is_tree : Room 42 _ := hr
  refine ⟨_, (pss_one (ps_if (pt_not (pt_val (pe_call G_is_tree R_is_tree rfl T.m_is_tree T.k_is_tree T.b_is_tree .nil pass0 (pa_cons (pv 0) (pa_cons pe_int (pa_cons (pe_lst (pa_cons (pe_glob (v := .int 300) rfl T.c_MOST ⟨_, rfl⟩) pa_nil)) pa_nil)))))) (pss_one (ps_raise rfl (takes_of rfl rfl rfl rfl) (pmk_own PySem.F.excBase_ValueError T.x_BadTree T.g_BadTree T.k_BadTree (raises_own T.sb_BadTree T.tt_BadTree) (by exact rfl)))) pss_nil)), ?_⟩
  have sLen : ([V.int 300] : List V).length ≤ sizeLine := by decide
  rcases h with ⟨t, ht, ho, q⟩ | ⟨⟨th, ht, hf, hb⟩, q⟩
  · refine ⟨_, rfl, sLen, fun l nl => ?_⟩
    refine ⟨H, v, toTh t, 0, 300, l, rfl, TreeAt.th t ht, same_new nl _, nl, upd_same, fit_toTh t ho.fit, by omega, by omega, fun H' k1 k2 => ?_⟩
    have e := isT_tree t 0 300 ho.2 (by have := ho.1; omega)
    rw [e]
    refine ⟨_, rfl, iteF (q _ ?_)⟩
    exact k1.same (same_new nl _) nl
  · refine ⟨_, rfl, sLen, fun l nl => ?_⟩
    refine ⟨H, v, th, 0, 300, l, rfl, ht, same_new nl _, nl, upd_same, hf, by omega, by omega, fun H' k1 k2 => ?_⟩
    rw [hb]
    exact ⟨_, rfl, iteT (q _ (k1.same (same_new nl _) nl))⟩
end
section
variable {P : Program} {w : World} {K : PySem.W.Frag} {mg : Str → Option Value} {base : Heap}
/-! ### told -/
def spTold (A : Addr) : Sp := fun vs H Q E => ∃ v, vs = [v] ∧ ((∃ t, TreeAt H v t ∧ okT t ∧ ∀ H' r, New H H' r (told t) → Q r H') ∨ (Bad H v ∧ ∀ H', Same H H' → E (.ref A) none H'))
theorem ok_told (T : Txt K mg) : FnOk P w K mg base (L2.CX P w) 44 T.a_told T.d_told ["tree"] (spTold T.A_BadTree) := by
  have G_asked_tree := ok_asked_tree (P := P) (w := w) (base := base) T
  have G_told_of := ok_told_of (P := P) (w := w) (base := base) T 41
  refine T.F_told.okX sc_told (fun vs H Q E h => ?_) (fun cdv A outer s H vs Q E hr h => ?_)
  · obtain ⟨v, rfl, _⟩ := h; rfl
  obtain ⟨v, rfl, h⟩ := h
  have R_asked_tree : Room 43 _ := hr
  have R_told_of : Room 43 _ := hr
  refine ⟨_, (pss_cons (ps_expr (pe_call G_asked_tree R_asked_tree rfl T.m_asked_tree T.k_asked_tree T.b_asked_tree .nil (passes_call (takes_of rfl rfl rfl rfl) (fun _ _ _ _ h => h)) (pa_cons (pv 0) pa_nil)))
      (pss_one (ps_ret (pe_call G_told_of R_told_of rfl T.m_told_of T.k_told_of T.b_told_of .nil pass0 (pa_cons (pv 0) pa_nil))))), ?_⟩
  rcases h with ⟨t, ht, ho, q⟩ | ⟨hb, q⟩
  · refine ⟨_, rfl, v, rfl, .inl ⟨t, ht, ho, fun H1 s1 => ?_⟩⟩
    exact ⟨_, rfl, v, t, rfl, TreeAt.same s1 t ht, ho.fit, ho.dp, fun H2 r nw => q _ _ (nw.of s1)⟩
  · exact ⟨_, rfl, v, rfl, .inr ⟨hb, fun H1 s1 => q _ s1⟩⟩
/-! ### compare -/
def sgn (i : Int) : Int := if 0 < i then 1 else if i = 0 then 0 else -1
/-- the first one is none, or the second one -/
def Bad2 (H : Hp) (v u : V) : Prop := Bad H v ∨ ((∃ t, TreeAt H v t ∧ okT t) ∧ Bad H u)
def spCompare (A : Addr) : Sp := fun vs H Q E => ∃ v u, vs = [v, u] ∧ ((∃ t s, TreeAt H v t ∧ okT t ∧ TreeAt H u s ∧ okT s ∧ ∀ H', Same H H' → Q (.int (sgn (cmp (told t) (told s)))) H') ∨ (Bad2 H v u ∧ ∀ H', Same H H' → E (.ref A) none H'))
theorem ok_compare (T : Txt K mg) : FnOk P w K mg base (L2.CX P w) 44 T.a_compare T.d_compare ["one", "other"] (spCompare T.A_BadTree) := by
  have G_asked_tree := ok_asked_tree (P := P) (w := w) (base := base) T
  have G_told_of := ok_told_of (P := P) (w := w) (base := base) T 41
  have G_compared := ok_compared (P := P) (w := w) (base := base) T 41
  refine T.F_compare.okX sc_compare (fun vs H Q E h => ?_) (fun cdv A outer s H vs Q E hr h => ?_)
  · obtain ⟨v, u, rfl, _⟩ := h; rfl
  obtain ⟨v, u, rfl, h⟩ := h
  have R_asked_tree : Room 43 _ := hr
  have R_told_of : Room 43 _ := hr
  have R_compared : Room 41 _ := hr.mono (by omega)
  refine ⟨_, (pss_cons (ps_expr (pe_call G_asked_tree R_asked_tree rfl T.m_asked_tree T.k_asked_tree T.b_asked_tree .nil (passes_call (takes_of rfl rfl rfl rfl) (fun _ _ _ _ h => h)) (pa_cons (pv 0) pa_nil)))
      (pss_cons (ps_expr (pe_call G_asked_tree R_asked_tree rfl T.m_asked_tree T.k_asked_tree T.b_asked_tree .nil (passes_call (takes_of rfl rfl rfl rfl) (fun _ _ _ _ h => h)) (pa_cons (pv 1) pa_nil)))
      (pss_cons (ps_set (i := 2) sc_compare.nd rfl (Or.inl rfl) (pe_call G_compared R_compared rfl T.m_compared T.k_compared T.b_compared .nil pass0 (pa_cons (pe_call G_told_of R_told_of rfl T.m_told_of T.k_told_of T.b_told_of .nil pass0 (pa_cons (pv 0) pa_nil)) (pa_cons (pe_call G_told_of R_told_of rfl T.m_told_of T.k_told_of T.b_told_of .nil pass0 (pa_cons (pv 1) pa_nil)) pa_nil))))
      (pss_one (ps_ret (pe_ifExp (pt_cmpR op_gt (pv 2) pe_int (nomark _)) pe_int (pe_ifExp (pt_cmpR op_eq (pv 2) pe_int (nomark _)) pe_int (pe_un un_neg pe_int)))))))), ?_⟩
  rcases h with ⟨t, s, ht, ho, hs, hos, q⟩ | ⟨hb | ⟨⟨t, ht, ho⟩, hb⟩, q⟩
  · refine ⟨_, rfl, v, rfl, .inl ⟨t, ht, ho, fun H1 s1 => ?_⟩⟩
    refine ⟨_, rfl, u, rfl, .inl ⟨s, TreeAt.same s1 s hs, hos, fun H2 s2 => ?_⟩⟩
    have s12 := s1.trans s2
    refine ⟨_, rfl, v, t, rfl, TreeAt.same s12 t ht, ho.fit, ho.dp, fun H3 r3 n3 => ?_⟩
    refine ⟨_, rfl, u, s, rfl, TreeAt.same (s12.trans n3.1) s hs, hos.fit, hos.dp, fun H4 r4 n4 => ?_⟩
    refine ⟨r3, r4, told t, told s, rfl, TreeAt.same n4.1 _ n3.at_, n4.at_, depth_told ho.dp, fun H5 s5 => ?_⟩
    have z := q H5 (s12.trans (n3.1.trans (n4.1.trans s5)))
    unfold sgn at z
    refine ⟨_, rfl, _, _, rfl, rfl, _, rfl, ?_⟩
    refine ite2 (fun c => ?_) (fun c => ?_)
    · have c' : 0 < cmp (told t) (told s) := of_decide_eq_true c
      rw [if_pos c'] at z
      exact z
    · have c' : ¬ 0 < cmp (told t) (told s) := of_decide_eq_false (Bool.eq_false_iff.mpr c)
      rw [if_neg c'] at z
      refine ⟨_, rfl, rfl, _, rfl, ?_⟩
      refine ite2 (fun c => ?_) (fun c => ?_)
      · have c2 : V.int (cmp (told t) (told s)) = V.int 0 := of_decide_eq_true c
        injection c2 with c2
        rw [if_pos c2] at z
        exact z
      · have c2 : ¬ V.int (cmp (told t) (told s)) = V.int 0 := of_decide_eq_false (Bool.eq_false_iff.mpr c)
        rw [if_neg (fun e => c2 (by rw [e]))] at z
        exact ⟨_, rfl, z⟩
  · exact ⟨_, rfl, v, rfl, .inr ⟨hb, fun H1 s1 => q _ s1⟩⟩
  · refine ⟨_, rfl, v, rfl, .inl ⟨t, ht, ho, fun H1 s1 => ?_⟩⟩
    exact ⟨_, rfl, u, rfl, .inr ⟨hb.same s1, fun H2 s2 => q _ (s1.trans s2)⟩⟩
/-! ### asked_great -/
def spAskedGreat (A : Addr) : Sp := fun vs H Q E => ∃ v t, vs = [v] ∧ TreeAt H v t ∧ fit t ∧ depth t ≤ 40 ∧ (knots t ≤ 300 → ∀ H', Same H H' → Q v H') ∧ (300 < knots t → ∀ H', Same H H' → E (.ref A) none H')
theorem ok_asked_great (T : Txt K mg) : FnOk P w K mg base (L2.CX P w) 42 T.a_asked_great T.d_asked_great ["tree"] (spAskedGreat T.A_TooGreat) := by
  have G_knots := ok_knots (P := P) (w := w) (base := base) T 41
  refine T.F_asked_great.okX sc_asked_great (fun vs H Q E h => ?_) (fun cdv A outer s H vs Q E hr h => ?_)
  · obtain ⟨v, t, rfl, _⟩ := h; rfl
  obtain ⟨v, t, rfl, ht, hf, hd, q1, q2⟩ := h
  have R_knots : Room 41 _ := hr
  refine ⟨_, (pss_cons (ps_if (pt_cmpR op_gt (pe_call G_knots R_knots rfl T.m_knots T.k_knots T.b_knots .nil pass0 (pa_cons (pv 0) pa_nil)) (pe_glob (v := .int 300) rfl T.c_MOST ⟨_, rfl⟩) (nomark _)) (pss_one (ps_raise rfl (takes_of rfl rfl rfl rfl) (pmk_own PySem.F.excBase_ValueError T.x_TooGreat T.g_TooGreat T.k_TooGreat (raises_own T.sb_TooGreat T.tt_TooGreat) (by exact rfl)))) pss_nil)
      (pss_one (ps_ret (pv 0)))), ?_⟩
  refine ⟨_, rfl, v, t, rfl, ht, hf, by omega, fun H1 s1 => ?_⟩
  refine ⟨_, _, rfl, rfl, _, rfl, ?_⟩
  refine ite2 (fun c => ?_) (fun c => ?_)
  · have c' : (300 : Int) < (knots t : Int) := of_decide_eq_true c
    exact q2 (by omega) _ s1
  · have c' : ¬ (300 : Int) < (knots t : Int) := of_decide_eq_false (Bool.eq_false_iff.mpr c)
    exact ⟨_, rfl, q1 (by omega) _ s1⟩
/-! ### together -/
/-- two trees -/
def spTwo (A B : Addr) (f : List Tt → List Tt → List Tt) : Sp := fun vs H Q E => ∃ v u, vs = [v, u] ∧
  ((∃ l m, TreeAt H v (.mk l) ∧ okT (.mk l) ∧ TreeAt H u (.mk m) ∧ okT (.mk m) ∧ (knots (.mk (f l m)) ≤ 300 → ∀ H' r, New H H' r (.mk (f l m)) → Q r H') ∧ (300 < knots (.mk (f l m)) → ∀ H', Same H H' → E (.ref B) none H')) ∨ (Bad2 H v u ∧ ∀ H', Same H H' → E (.ref A) none H'))
theorem merge_mem {l m : List Tt} {x : Tt} (h : x ∈ merge l m) : x ∈ l ∨ x ∈ m := List.mem_append.mp ((merge_perm l m).mem_iff.mp h)
theorem depth_mk_of {l : List Tt} {n : Nat} (h : ∀ x, x ∈ l → depth x < n) : depth (.mk l) ≤ n := by rw [depth]; exact depthL_iff.mpr h
theorem fit_mk_of {l : List Tt} (h : ∀ x, x ∈ l → fit x) (hl : l.length ≤ lim) : fit (.mk l) := by rw [fit_mk]; exact ⟨hl, fitL_iff.mpr h⟩
theorem toldB_depth {l : List Tt} {n : Nat} (h : depth (.mk l) ≤ n) : ∀ x, x ∈ toldL [] l → depth x < n := fun x hx => by
  obtain ⟨y, hy, e⟩ := mem_toldL hx
  rw [e]
  rw [depth] at h
  have := depthL_le hy
  exact depth_told (by omega)
theorem toldB_fit {l : List Tt} (h : fit (.mk l)) : ∀ x, x ∈ toldL [] l → fit x := fun x hx => by
  obtain ⟨y, hy, e⟩ := mem_toldL hx
  rw [e]
  exact fit_told y (fit_bs h hy)
theorem okT_len {l : List Tt} (h : okT (.mk l)) : (toldL [] l).length ≤ 300 := by
  have h1 := h.1
  rw [knots] at h1
  have := knotsL_len l
  rw [toldL_len]
  simp only [List.length_nil]
  omega
theorem ok_together (T : Txt K mg) : FnOk P w K mg base (L2.CX P w) 44 T.a_together T.d_together ["one", "other"] (spTwo T.A_BadTree T.A_TooGreat fun l m => merge (toldL [] l) (toldL [] m)) := by
  have G_asked_tree := ok_asked_tree (P := P) (w := w) (base := base) T
  have G_asked_great := ok_asked_great (P := P) (w := w) (base := base) T
  have G_told_of := ok_told_of (P := P) (w := w) (base := base) T 41
  have G_merged := ok_merged (P := P) (w := w) (base := base) T 40
  refine T.F_together.okX sc_together (fun vs H Q E h => ?_) (fun cdv A outer s H vs Q E hr h => ?_)
  · obtain ⟨v, u, rfl, _⟩ := h; rfl
  obtain ⟨v, u, rfl, h⟩ := h
  have R_asked_tree : Room 43 _ := hr
  have R_told_of : Room 43 _ := hr
  have R_asked_great : Room 42 _ := hr.mono (by omega)
  have R_merged : Room 41 _ := hr.mono (by omega)
  refine ⟨_, (pss_cons (ps_expr (pe_call G_asked_tree R_asked_tree rfl T.m_asked_tree T.k_asked_tree T.b_asked_tree .nil (passes_call (takes_of rfl rfl rfl rfl) (fun _ _ _ _ h => h)) (pa_cons (pv 0) pa_nil)))
      (pss_cons (ps_expr (pe_call G_asked_tree R_asked_tree rfl T.m_asked_tree T.k_asked_tree T.b_asked_tree .nil (passes_call (takes_of rfl rfl rfl rfl) (fun _ _ _ _ h => h)) (pa_cons (pv 1) pa_nil)))
      (pss_one (ps_ret (pe_call G_asked_great R_asked_great rfl T.m_asked_great T.k_asked_great T.b_asked_great .nil (passes_call (takes_of rfl rfl rfl rfl) (fun _ _ _ _ h => h)) (pa_cons (pe_call G_merged R_merged rfl T.m_merged T.k_merged T.b_merged .nil pass0 (pa_cons (pe_call G_told_of R_told_of rfl T.m_told_of T.k_told_of T.b_told_of .nil pass0 (pa_cons (pv 0) pa_nil)) (pa_cons (pe_call G_told_of R_told_of rfl T.m_told_of T.k_told_of T.b_told_of .nil pass0 (pa_cons (pv 1) pa_nil)) pa_nil))) pa_nil)))))), ?_⟩
  rcases h with ⟨l, m, ht, ho, hs, hos, q1, q2⟩ | ⟨hb | ⟨⟨t, ht, ho⟩, hb⟩, q⟩
  · refine ⟨_, rfl, v, rfl, .inl ⟨_, ht, ho, fun H1 s1 => ?_⟩⟩
    refine ⟨_, rfl, u, rfl, .inl ⟨_, TreeAt.same s1 _ hs, hos, fun H2 s2 => ?_⟩⟩
    have s12 := s1.trans s2
    refine ⟨_, rfl, v, _, rfl, TreeAt.same s12 _ ht, ho.fit, ho.dp, fun H3 r3 n3 => ?_⟩
    refine ⟨_, rfl, u, _, rfl, TreeAt.same (s12.trans n3.1) _ hs, hos.fit, hos.dp, fun H4 r4 n4 => ?_⟩
    rw [told_mk] at n3 n4
    have f1 := toldB_fit ho.fit
    have f2 := toldB_fit hos.fit
    have d1 := toldB_depth ho.2
    have d2 := toldB_depth hos.2
    have e1 := okT_len ho
    have e2 := okT_len hos
    refine ⟨r3, r4, _, _, rfl, TreeAt.same n4.1 _ n3.at_, n4.at_, fitL_iff.mpr f1, fitL_iff.mpr f2, ?_, d1, d2, fun H5 r5 n5 => ?_⟩
    · exact Nat.le_trans (Nat.add_le_add e1 e2) (by decide)
    have n05 : New H H5 r5 _ := n5.of (s12.trans (n3.1.trans n4.1))
    refine ⟨r5, _, rfl, n5.at_, ?_, ?_, fun hk H6 s6 => q1 hk _ _ (n05.step s6), fun hk H6 s6 => q2 hk _ (n05.1.trans s6)⟩
    · refine fit_mk_of (fun x hx => (merge_mem hx).elim (f1 x) (f2 x)) ?_
      rw [merge_len]
      exact Nat.le_trans (Nat.add_le_add e1 e2) (by decide)
    · exact depth_mk_of fun x hx => (merge_mem hx).elim (d1 x) (d2 x)
  · exact ⟨_, rfl, v, rfl, .inr ⟨hb, fun H1 s1 => q _ s1⟩⟩
  · refine ⟨_, rfl, v, rfl, .inl ⟨t, ht, ho, fun H1 s1 => ?_⟩⟩
    exact ⟨_, rfl, u, rfl, .inr ⟨hb.same s1, fun H2 s2 => q _ (s1.trans s2)⟩⟩
end
section
variable {P : Program} {w : World} {K : PySem.W.Frag} {mg : Str → Option Value} {base : Heap}
/-! ### behind -/
/-- the branches of l that are worth no less than all of m, then m's -/
def keepq (m : List Tt) (x : Tt) : Bool := match m with | [] => true | y :: _ => decide (0 ≤ cmp x y)
def keepB (l m : List Tt) : List Tt := l.filter (keepq m)
def behindL (l m : List Tt) : List Tt := keepB l m ++ m
theorem keepB_mem {l m : List Tt} {x : Tt} (h : x ∈ keepB l m) : x ∈ l := (List.mem_filter.mp h).1
theorem keepB_snoc (l m : List Tt) (x : Tt) : keepB (l ++ [x]) m = if keepq m x = true then keepB l m ++ [x] else keepB l m := by
  unfold keepB
  rw [List.filter_append]
  by_cases h : keepq m x = true
  · rw [if_pos h, List.filter_cons_of_pos h, List.filter_nil]
  · rw [if_neg h, List.filter_cons_of_neg h, List.filter_nil, List.append_nil]
/-- some of the branches of an owned list, in turn: owned alike -/
inductive Some_ (p : Tt → Bool) : List V → List Tt → List V → List Tt → Prop where
  | nil : Some_ p [] [] [] []
  | yes {v : V} {t : Tt} {vs ws : List V} {ts us : List Tt} (h : p t = true) (r : Some_ p vs ts ws us) : Some_ p (v :: vs) (t :: ts) (v :: ws) (t :: us)
  | no {v : V} {t : Tt} {vs ws : List V} {ts us : List Tt} (h : p t = false) (r : Some_ p vs ts ws us) : Some_ p (v :: vs) (t :: ts) ws us
theorem Some_.snoc {p : Tt → Bool} {v : V} {t : Tt} {vs ws : List V} {ts us : List Tt} (r : Some_ p vs ts ws us) : Some_ p (vs ++ [v]) (ts ++ [t]) (if p t = true then ws ++ [v] else ws) (if p t = true then us ++ [t] else us) := by
  induction r with
  | nil =>
    by_cases h : p t = true
    · rw [if_pos h, if_pos h]; exact .yes h .nil
    · rw [if_neg h, if_neg h]; exact .no (Bool.eq_false_iff.mpr h) .nil
  | yes h r ih =>
    by_cases h2 : p t = true
    · rw [if_pos h2, if_pos h2] at ih ⊢; exact .yes h ih
    · rw [if_neg h2, if_neg h2] at ih ⊢; exact .yes h ih
  | no h r ih => exact .no h ih
theorem Some_.len {p : Tt → Bool} {vs ws : List V} {ts us : List Tt} (r : Some_ p vs ts ws us) : ws.length ≤ vs.length := by
  induction r with
  | nil => exact Nat.le_refl _
  | yes h r ih => simp only [List.length_cons]; omega
  | no h r ih => simp only [List.length_cons]; omega
theorem Some_.owns {H : Hp} {p : Tt → Bool} {vs ws : List V} {ts us : List Tt} (r : Some_ p vs ts ws us) : ∀ {as : List Addr}, Owns H vs ts as → ∃ bs, Owns H ws us bs ∧ bs.Sublist as := by
  induction r with
  | nil => intro as h; exact ⟨as, h, List.Sublist.refl _⟩
  | yes h r ih =>
    intro as o
    rw [owns_cons] at o
    obtain ⟨v', vs', a1, a2, e, rfl, o1, o2⟩ := o
    injection e with e1 e2
    subst e1 e2
    obtain ⟨bs, o3, sb⟩ := ih o2
    exact ⟨a1 ++ bs, by rw [owns_cons]; exact ⟨_, _, a1, bs, rfl, rfl, o1, o3⟩, sb.append_left a1⟩
  | no h r ih =>
    intro as o
    rw [owns_cons] at o
    obtain ⟨v', vs', a1, a2, e, rfl, o1, o2⟩ := o
    injection e with e1 e2
    subst e1 e2
    obtain ⟨bs, o3, sb⟩ := ih o2
    exact ⟨bs, o3, sb.trans (List.sublist_append_right _ _)⟩
theorem Some_.us {p : Tt → Bool} {vs ws : List V} {ts us : List Tt} (r : Some_ p vs ts ws us) : us = ts.filter p := by
  induction r with
  | nil => rfl
  | yes h r ih => rw [List.filter_cons_of_pos h, ih]
  | no h r ih => rw [List.filter_cons_of_neg (by simp [h]), ih]
theorem atI_zero {α : Type} {x : α} {xs : List α} : atI (x :: xs) 0 = some x := by
  have h : atI (x :: xs) ((0 : Nat) : Int) = some x := atI_nat rfl
  exact h
theorem ok_behind (T : Txt K mg) : FnOk P w K mg base (L2.CX P w) 44 T.a_behind T.d_behind ["one", "other"] (spTwo T.A_BadTree T.A_TooGreat fun l m => behindL (toldL [] l) (toldL [] m)) := by
  have G_asked_tree := ok_asked_tree (P := P) (w := w) (base := base) T
  have G_asked_great := ok_asked_great (P := P) (w := w) (base := base) T
  have G_told_of := ok_told_of (P := P) (w := w) (base := base) T 41
  have G_compared := ok_compared (P := P) (w := w) (base := base) T 41
  refine T.F_behind.okX sc_behind (fun vs H Q E h => ?_) (fun cdv A outer s H vs Q E hr h => ?_)
  · obtain ⟨v, u, rfl, _⟩ := h; rfl
  obtain ⟨v, u, rfl, h⟩ := h
  have R_asked_tree : Room 43 _ := hr
  have R_told_of : Room 43 _ := hr
  have R_asked_great : Room 42 _ := hr.mono (by omega)
  have R_compared : Room 41 _ := hr.mono (by omega)
  have hu64 := hr.units
  refine ⟨_, (pss_cons (ps_expr (pe_call G_asked_tree R_asked_tree rfl T.m_asked_tree T.k_asked_tree T.b_asked_tree .nil (passes_call (takes_of rfl rfl rfl rfl) (fun _ _ _ _ h => h)) (pa_cons (pv 0) pa_nil)))
      (pss_cons (ps_expr (pe_call G_asked_tree R_asked_tree rfl T.m_asked_tree T.k_asked_tree T.b_asked_tree .nil (passes_call (takes_of rfl rfl rfl rfl) (fun _ _ _ _ h => h)) (pa_cons (pv 1) pa_nil)))
      (pss_cons (ps_set (i := 2) sc_behind.nd rfl (Or.inr rfl) (pe_call G_told_of R_told_of rfl T.m_told_of T.k_told_of T.b_told_of .nil pass0 (pa_cons (pv 1) pa_nil)))
      (pss_cons (ps_setLc (i := 3) (own := [("branch", 4)]) (g := gName 4)  rfl sc_behind.nd rfl rfl (sw_true rfl rfl rfl (by decide +kernel)) (pi_list (pe_call G_told_of R_told_of rfl T.m_told_of T.k_told_of T.b_told_of .nil pass0 (pa_cons (pv 0) pa_nil))) (blkOk_by (own := [("branch", 4)]) (N := ["one", "other", "second", "first", "branch"]) (sc := defScope s_behind) (by decide +kernel)) (fun _ _ _ _ _ => (pg_name (i := 4) sc_behind.nd rfl (Or.inl rfl))) (fun _ _ _ _ _ => (pts_one (PW.pt (pw_or (pt_cmpR (r := rEqD K) (op_eqD hu64) (pv 2) (pe_lst pa_nil) (nomark _)) (pw_or1 (pt_cmpR op_ge (pe_call G_compared R_compared rfl T.m_compared T.k_compared T.b_compared .nil pass0 (pa_cons (pv 4) (pa_cons (pe_ix (r := rIxL K) ix_list (pv 2) pe_int (fun _ _ => rfl)) pa_nil))) pe_int (nomark _))))))) (fun _ _ _ _ _ => (pv 4)))
      (pss_one (ps_ret (pe_call G_asked_great R_asked_great rfl T.m_asked_great T.k_asked_great T.b_asked_great .nil (passes_call (takes_of rfl rfl rfl rfl) (fun _ _ _ _ h => h)) (pa_cons (pe_op op_cat (pv 3) (pv 2)) pa_nil)))))))), ?_⟩
  rcases h with ⟨l0, m0, ht, ho, hs, hos, q1, q2⟩ | ⟨hb | ⟨⟨t, ht, ho⟩, hb⟩, q⟩
  · refine ⟨_, rfl, v, rfl, .inl ⟨_, ht, ho, fun H1 s1 => ?_⟩⟩
    refine ⟨_, rfl, u, rfl, .inl ⟨_, TreeAt.same s1 _ hs, hos, fun H2 s2 => ?_⟩⟩
    have s12 := s1.trans s2
    refine ⟨_, rfl, u, _, rfl, TreeAt.same s12 _ hs, hos.fit, hos.dp, fun H3 r3 n3 => ?_⟩
    refine ⟨_, rfl, v, _, rfl, TreeAt.same (s12.trans n3.1) _ ht, ho.fit, ho.dp, fun H4 r4 n4 => ?_⟩
    rw [told_mk] at n3 n4
    have f1 := toldB_fit ho.fit
    have f2 := toldB_fit hos.fit
    have d1 := toldB_depth ho.2
    have d2 := toldB_depth hos.2
    have e1 := okT_len ho
    have e2 := okT_len hos
    replace q1 : knots (.mk (behindL (toldL [] l0) (toldL [] m0))) ≤ 300 → ∀ H' r, New H H' r (.mk (behindL (toldL [] l0) (toldL [] m0))) → Q r H' := q1
    replace q2 : 300 < knots (.mk (behindL (toldL [] l0) (toldL [] m0))) → ∀ H', Same H H' → E (.ref T.A_TooGreat) none H' := q2
    generalize toldL [] l0 = l at n4 f1 d1 e1 q1 q2
    generalize toldL [] m0 = m at n3 f2 d2 e2 q1 q2
    obtain ⟨s23, as3, o3, nd3, fr3⟩ := n3
    obtain ⟨s34, as4, o4, nd4, fr4⟩ := n4
    rw [own_mk] at o3 o4
    obtain ⟨b, ys, bs3, rfl, rfl, hb3, ow3⟩ := o3
    obtain ⟨a, xs, bs4, rfl, rfl, ha4, ow4⟩ := o4
    have ht4 := Owns.at_ l ow4
    have ht3 := TreesAt.same s34 m (Owns.at_ m ow3)
    have hb4 := s34 _ _ hb3
    refine ⟨a, rfl, ⟨xs, SqL.of ha4⟩, fun D nD => ?_⟩
    -- first = [branch for branch in told_of(one) if ..]
    refine lc_it (walk_list (xs := xs)) (fun i H' => Same H4 H' ∧ ∃ acc us, H' D = some (.lst acc) ∧ Some_ (keepq m) (xs.take i) (l.take i) acc us) ⟨same_new nD _, [], [], upd_same, .nil⟩ (fun i H' _ g => SqL.of (g.1 _ _ ha4)) ?_ ?_
    · rintro i x H5 H6 hi ⟨s5, acc, us, hD, sm⟩ ⟨rfl, hx⟩
      obtain ⟨t, htl, hxt⟩ := ht4.get hx
      have sn := sm.snoc (v := x) (t := t)
      rw [← take_more hx, ← take_more htl] at sn
      have zl : acc.length < sizeLine := lim_line (by
        have h1 := sm.len
        rw [List.length_take] at h1
        have h2 := ht4.len
        have h3 : (300 : Nat) ≤ lim := by decide
        omega)
      refine ⟨rfl, ?_⟩
      -- second == [] or compared(branch, second[0]) >= 0
      refine cut_t (fun b H' => Same H6 H' ∧ b = keepq m t) (fun Q' hQ' => ?_) ?_
      · refine ⟨_, rfl, (by show 0 ≤ sizeLine; decide), fun p np => ?_⟩
        have sp := same_new np (.lst [])
        have hm1 : TreeAt (upd H6 p (.lst [])) (.ref b) (.mk m) := by rw [treeAt_mk]; exact ⟨b, ys, rfl, sp _ _ (s5 _ _ hb4), TreesAt.same sp _ (TreesAt.same s5 _ ht3)⟩
        refine eq_trees hm1 (nil_tree upd_same) (Nat.le_trans (depth_mk_of d2) (by decide)) (by rw [depth, depthL]; decide) ⟨_, rfl, ?_⟩
        refine ite2 (fun c => ?_) (fun c => ?_)
        · have c' : Tt.mk m = Tt.mk [] := of_decide_eq_true c
          injection c' with c'
          exact hQ' _ _ ⟨sp, by rw [c']; rfl⟩
        · have c' : ¬ Tt.mk m = Tt.mk [] := of_decide_eq_false (Bool.eq_false_iff.mpr c)
          cases m with
          | nil => exact absurd rfl c'
          | cons y m' =>
            rw [treesAt_cons] at ht3
            obtain ⟨yv, ys', rfl, hy1, _⟩ := ht3
            refine ⟨_, rfl, _, rfl, b, _, 0, yv, rfl, rfl, SqL.of (sp _ _ (s5 _ _ hb4)), atI_zero, x, yv, t, y, rfl, TreeAt.same (s5.trans sp) _ hxt, TreeAt.same (s5.trans sp) _ hy1, Nat.lt_succ_of_lt (d1 t (List.mem_of_getElem? htl)), fun H7 s7 => ?_⟩
            exact ⟨_, _, rfl, rfl, _, rfl, hQ' _ _ ⟨sp.trans s7, rfl⟩⟩
      rintro b1 H7 ⟨s7, rfl⟩
      refine ite2 (fun c => ?_) (fun c => ?_)
      · rw [if_pos c, if_pos c] at sn
        refine ⟨_, rfl, acc, s7 _ _ hD, zl, fun z o e => ?_, _, _, upd_same, sn⟩
        rw [upd_ne (ne_of_none e nD)]; exact s7 _ _ (s5 _ _ e)
      · rw [if_neg c, if_neg c] at sn
        exact ⟨s5.trans s7, acc, us, s7 _ _ hD, sn⟩
    · rintro H5 ⟨s5, acc, us, hD, sm⟩
      have el : xs.length = l.length := ht4.len
      rw [el, List.take_length, ← el, List.take_length] at sm
      have eu : us = keepB l m := sm.us
      subst eu
      obtain ⟨cs, ow1, sb⟩ := sm.owns ow4
      have la : acc.length ≤ 300 := by have := sm.len; omega
      have lb : ys.length ≤ 300 := by have := ht3.len; omega
      refine ⟨_, rfl, _, rfl, D, b, acc, ys, rfl, rfl, hD, s5 _ _ hb4, Nat.le_trans (Nat.add_le_add la lb) (by decide), fun p np => ?_⟩
      have sp := same_new np (.lst (acc ++ ys))
      have own : Own (upd H5 p (.lst (acc ++ ys))) (.ref p) (.mk (behindL l m)) (p :: (cs ++ bs3)) := by
        rw [own_mk]
        refine ⟨p, acc ++ ys, cs ++ bs3, rfl, rfl, upd_same, ?_⟩
        exact Owns.append (Owns.frame _ ow1 fun a ha o e => sp _ _ (s5 _ _ e)) (Owns.frame _ ow3 fun a ha o e => sp _ _ (s5 _ _ (s34 _ _ e)))
      have fresh4 : ∀ a, a ∈ cs → H3 a = none := fun a ha => fr4 a (List.mem_cons_of_mem _ (sb.subset ha))
      have tr3 : ∀ a, a ∈ bs3 → ∃ o, H3 a = some o := fun a ha => let ⟨o, q⟩ := Owns.tracked m ow3 a ha; ⟨_, q⟩
      have nw : New H2 (upd H5 p (.lst (acc ++ ys))) (.ref p) (.mk (behindL l m)) := by
        refine ⟨s23.trans (s34.trans (s5.trans sp)), _, own, ?_, fun a ha => ?_⟩
        · refine List.nodup_cons.mpr ⟨fun h => ?_, List.nodup_append.mpr ⟨sb.nodup (List.nodup_cons.mp nd4).2, (List.nodup_cons.mp nd3).2, fun a ha b' hb' e => ?_⟩⟩
          · rcases List.mem_append.mp h with h | h
            · obtain ⟨o, q⟩ := Owns.tracked _ ow1 p h
              rw [s5 _ _ q] at np; cases np
            · obtain ⟨o, q⟩ := tr3 p h
              rw [s5 _ _ (s34 _ _ q)] at np; cases np
          · obtain ⟨o, q⟩ := tr3 b' hb'
            rw [← e, fresh4 a ha] at q; cases q
        · rcases List.mem_cons.mp ha with e | ha
          · rw [e]; exact ((s23.trans s34).trans s5).free np
          · rcases List.mem_append.mp ha with ha | ha
            · exact s23.free (fresh4 a ha)
            · exact fr3 a (List.mem_cons_of_mem _ ha)
      have nw0 := nw.of s12
      refine ⟨.ref p, _, rfl, nw.at_, ?_, ?_, fun hk H6 s6 => q1 hk _ _ (nw0.step s6), fun hk H6 s6 => q2 hk _ (nw0.1.trans s6)⟩
      · refine fit_mk_of (fun x hx => (List.mem_append.mp hx).elim (fun hx => f1 x (keepB_mem hx)) (f2 x)) ?_
        unfold behindL
        rw [List.length_append]
        have : (keepB l m).length ≤ l.length := List.length_filter_le _ _
        have h3 : (600 : Nat) ≤ lim := by decide
        omega
      · exact depth_mk_of fun x hx => (List.mem_append.mp hx).elim (fun hx => d1 x (keepB_mem hx)) (d2 x)
  · exact ⟨_, rfl, v, rfl, .inr ⟨hb, fun H1 s1 => q _ s1⟩⟩
  · refine ⟨_, rfl, v, rfl, .inl ⟨t, ht, ho, fun H1 s1 => ?_⟩⟩
    exact ⟨_, rfl, u, rfl, .inr ⟨hb.same s1, fun H2 s2 => q _ (s1.trans s2)⟩⟩
end
section
variable {P : Program} {w : World} {K : PySem.W.Frag} {mg : Str → Option Value} {base : Heap}
/-! ### _law_number: some number of not too many bits -/
def NB : Nat := 1050000
def spLawNumber : Sp := fun vs H Q _ => ∃ (c wh : Int) (at_ : Nat), vs = [.int c, .int at_, .int wh] ∧ Bits c NB ∧ Bits wh NB ∧ at_ ≤ 1000 ∧ ∀ z, Bits z 2200000 → Q (.int z) H
theorem ok__law_number (T : Txt K mg) : FnOk P w K mg base CX0 1 T.a__law_number T.d__law_number ["_law_cell", "_law_at", "_law_whole"] spLawNumber := by
  refine T.F__law_number.ok sc__law_number (fun vs H Q E h => ?_) (fun cdv A outer s H vs Q E hr h => ?_)
  · obtain ⟨c, wh, at_, rfl, _⟩ := h; rfl
  obtain ⟨c, wh, at_, rfl, hc, hw, hat, q⟩ := h
  have bat : Bits (at_ : Int) 10 := Bits.lt (n := 1024) (by omega) (by omega) (by decide)
  refine ⟨_, (pss_cons (ps_if (pt_cmpR op_ge (pv 0) (pe_op op_pow pe_int pe_int) (nomark _)) (pss_one (ps_ret (pe_op op_fdivW (pv 0) (pe_op op_add pe_int (pe_op op_mod (pv 1) pe_int))))) pss_nil)
      (pss_cons (ps_set (i := 3) sc__law_number.nd rfl (Or.inl rfl) (pe_op op_mod (pe_op op_add (pe_op op_mulX (pe_op op_add (pv 0) (pe_op op_mulX pe_int (pv 1))) pe_int) (pv 2)) pe_int))
      (pss_cons (ps_set (i := 4) sc__law_number.nd rfl (Or.inl rfl) (pe_op op_mulX (pv 3) (pe_op op_add (pe_op op_add (pv 0) (pe_op op_mulX pe_int (pv 1))) pe_int)))
      (pss_one (ps_ret (pe_op op_fdivW (pe_op op_mulX (pe_op op_mulX (pv 4) (pe_op op_add (pe_op op_add (pv 3) (pv 0)) pe_int)) (pe_op op_add (pe_op op_mulX (pv 3) (pv 3)) pe_int)) (pe_op op_add pe_int (pv 1)))))))), ?_⟩
  refine ⟨_, rfl, _, _, rfl, rfl, (by exact ⟨by decide, by decide, by decide⟩), _, _, rfl, rfl, _, rfl, ?_⟩
  refine ite2 (fun _ => ?_) (fun _ => ?_)
  · have m0 : 0 ≤ (at_ : Int) % 7 := Int.emod_nonneg _ (by decide)
    have m1 : (at_ : Int) % 7 < 7 := Int.emod_lt_of_pos _ (by decide)
    have e : ∀ x : Int, 0 ≤ x → x < 7 → CDivW c (1 + x) := fun x h0 h1 => wide_div (b := 4) (by omega) (by show (1 + x).natAbs < 16; omega) (by decide) (by decide)
    exact ⟨_, rfl, _, rfl, _, _, rfl, rfl, (by show (0 : Int) < 7; decide), _, _, rfl, rfl, _, _, rfl, rfl, e _ m0 m1, q _ ((hc.div).mono (by decide))⟩
  · have b1 : Bits (977 * (at_ : Int)) 20 := Bits.mul (a := 10) (b := 10) (by show (977 : Nat) < 1024; decide) bat
    have b2 : Bits (c + 977 * (at_ : Int)) (NB + 1) := hc.add (b1.mono (by decide))
    have b3 : Bits ((c + 977 * (at_ : Int)) * 48271) (NB + 1 + 16) := b2.mul (b := 16) (by show (48271 : Nat) < 65536; decide)
    refine ⟨_, rfl, _, rfl, _, _, rfl, rfl, Bits.mulX (a := 10) (b := 10) (by show (977 : Nat) < 1024; decide) bat (by decide), _, _, rfl, rfl, _, _, rfl, rfl, b2.mulX (b := 16) (by show (48271 : Nat) < 65536; decide) (by decide), _, rfl, _, _, rfl, rfl, _, _, rfl, rfl, (by show (0 : Int) < 2147483647; decide), ?_⟩
    have m0 : 0 ≤ ((c + 977 * (at_ : Int)) * 48271 + wh) % 2147483647 := Int.emod_nonneg _ (by decide)
    have m1 : ((c + 977 * (at_ : Int)) * 48271 + wh) % 2147483647 < 2147483647 := Int.emod_lt_of_pos _ (by decide)
    show tSeq _ _ _ [_, _, _, some (V.int (((c + 977 * (at_ : Int)) * 48271 + wh) % 2147483647)), _] H
    generalize ((c + 977 * (at_ : Int)) * 48271 + wh) % 2147483647 = m at m0 m1 ⊢
    have bm : Bits m 31 := Bits.lt (n := 2147483647) m0 m1 (by decide)
    have b4 : Bits (31 * (at_ : Int)) 15 := Bits.mul (a := 5) (b := 10) (by show (31 : Nat) < 32; decide) bat
    have b5 : Bits (c + 31 * (at_ : Int)) (NB + 1) := hc.add (b4.mono (by decide))
    have b6 : Bits (c + 31 * (at_ : Int) + 7) (NB + 2) := b5.add (Bits.mono (a := 3) (by show (7 : Nat) < 8; decide) (by decide))
    refine ⟨_, rfl, _, rfl, _, rfl, _, _, rfl, rfl, Bits.mulX (a := 5) (b := 10) (by show (31 : Nat) < 32; decide) bat (by decide), _, _, rfl, rfl, _, _, rfl, rfl, _, _, rfl, rfl, bm.mulX b6 (by decide), ?_⟩
    have b7 : Bits (m * (c + 31 * (at_ : Int) + 7)) (31 + (NB + 2)) := bm.mul b6
    have b8 : Bits (m + c) (NB + 1) := (bm.mono (by decide)).add hc
    have b9 : Bits (m + c + 5) (NB + 2) := b8.add (Bits.mono (a := 3) (by show (5 : Nat) < 8; decide) (by decide))
    have b10 : Bits (m * m) 62 := bm.mul bm
    have b11 : Bits (m * m + 11) 63 := b10.add (Bits.mono (a := 4) (by show (11 : Nat) < 16; decide) (by decide))
    have b12 := b7.mul b9
    have b13 := b12.mul b11
    have cd : CDivW (m * (c + 31 * (at_ : Int) + 7) * (m + c + 5) * (m * m + 11)) (1009 + (at_ : Int)) := wide_div (b := 12) (by omega) (by show (1009 + (at_ : Int)).natAbs < 4096; omega) (by decide) (by decide)
    exact ⟨_, rfl, _, rfl, _, rfl, _, _, rfl, rfl, _, _, rfl, rfl, _, _, rfl, rfl, b7.mulX b9 (by decide), _, rfl, _, rfl, _, _, rfl, rfl, bm.mulX bm (by decide), _, _, rfl, rfl, _, _, rfl, rfl, b12.mulX b11 (by decide), _, rfl, _, _, rfl, rfl, _, _, rfl, rfl, cd, q _ (b13.div.mono (by decide))⟩
/-! ### _law_more: as compared -/
def spLawMore (n : Nat) : Sp := fun vs H Q _ => ∃ (v u : V) (t s : Tt), vs = [v, u] ∧ TreeAt H v t ∧ TreeAt H u s ∧ fit t ∧ depth t < n ∧ ∀ H', Same H H' → Q (.int (cmp t s)) H'
theorem min_ite (i j : Nat) : (if (j : Int) < (i : Int) then (j : Int) else (i : Int)) = ((min i j : Nat) : Int) := by
  by_cases h : j < i
  · rw [if_pos (by omega)]; omega
  · rw [if_neg (by omega)]; omega
theorem ok__law_more (T : Txt K mg) : ∀ n, FnOk P w K mg base CX0 n T.a__law_more T.d__law_more ["_law_one", "_law_other"] (spLawMore n)
  | 0 => none_left fun vs H Q E ⟨v, u, t, s, _, _, _, _, h, _⟩ => by omega
  | n + 1 => by
    have G__law_more := ok__law_more T n
    refine T.F__law_more.ok sc__law_more (fun vs H Q E h => ?_) (fun cdv A outer s H vs Q E hr h => ?_)
    · obtain ⟨v, u, t, s, rfl, _⟩ := h; rfl
    obtain ⟨v, u, ⟨bs⟩, ⟨cs⟩, rfl, ht, hu, hf, hd, q⟩ := h
    have R__law_more : Room n _ := hr
    rw [treeAt_mk] at ht hu
    obtain ⟨a, xs, rfl, ha, hbs⟩ := ht
    obtain ⟨b, ys, rfl, hb, hcs⟩ := hu
    rw [cmp_mk] at q
    have el := hbs.len
    have em := hcs.len
    have lb : min xs.length ys.length ≤ lim := Nat.le_trans (Nat.min_le_left _ _) (by rw [el]; exact fit_len hf)
    have l62 : (lim : Int) < 2 ^ 62 := by decide
    refine ⟨_, (pss_cons (ps_for PassesOwn.never rfl (pi_range1 (by rfl) T.z_range (pa_cons (pe_callB (call_min2 rfl) (by rfl) T.z_min (by decide +kernel) (pa_cons (pe_callB (r := rLenS K) call_len_seqK rfl T.z_len PySem.boot_len (pa_cons (pv 0) pa_nil)) (pa_cons (pe_callB (r := rLenS K) call_len_seqK rfl T.z_len PySem.boot_len (pa_cons (pv 1) pa_nil)) pa_nil))) pa_nil)) (pg_name (i := 2) sc__law_more.nd rfl (Or.inl rfl)) (pss_cons (ps_set (i := 3) sc__law_more.nd rfl (Or.inl rfl) (pe_call G__law_more R__law_more rfl T.m__law_more T.k__law_more T.b__law_more .nil pass0 (pa_cons (pe_ix (r := rIxL K) ix_list (pv 0) (pv 2) (fun _ _ => rfl)) (pa_cons (pe_ix (r := rIxL K) ix_list (pv 1) (pv 2) (fun _ _ => rfl)) pa_nil))))
        (pss_one (ps_if (pt_cmpR op_ne (pv 3) pe_int (nomark _)) (pss_one (ps_ret (pv 3))) pss_nil))))
      (pss_one (ps_ret (pe_op op_sub (pe_callB (r := rLenS K) call_len_seqK rfl T.z_len PySem.boot_len (pa_cons (pv 0) pa_nil)) (pe_callB (r := rLenS K) call_len_seqK rfl T.z_len PySem.boot_len (pa_cons (pv 1) pa_nil)))))), ?_⟩
    refine ⟨_, rfl, a, _, rfl, .inl (SqL.of ha), _, rfl, b, _, rfl, .inl (SqL.of hb), _, _, rfl, ?_⟩
    rw [min_ite]
    refine ⟨_, rfl, by omega, by omega, ?_⟩
    rw [Int.toNat_natCast]
    refine for_range (fun i σ H' => Same H H' ∧ cmpL bs cs = cmpL (bs.drop i) (cs.drop i) ∧ ∃ m f, σ = [some (.ref a), some (.ref b), m, f]) ⟨Same.refl H, by simp, none, none, rfl⟩ ?_ ?_
    · rintro i σ H1 hi ⟨s1, e1, m, f, rfl⟩
      have hi1 : i < bs.length := by omega
      have hi2 : i < cs.length := by omega
      obtain ⟨x, hx, hxt⟩ := hbs.get' (List.getElem?_eq_getElem hi1)
      obtain ⟨y, hy, hyt⟩ := hcs.get' (List.getElem?_eq_getElem hi2)
      have ez : (0 : Int) + (i : Int) = (i : Int) := by omega
      rw [ez]
      refine ⟨_, rfl, _, rfl, a, xs, _, _, rfl, rfl, SqL.of (s1 _ _ ha), atI_nat hx, _, rfl, _, rfl, b, ys, _, _, rfl, rfl, SqL.of (s1 _ _ hb), atI_nat hy, x, y, bs[i], cs[i], rfl, TreeAt.same s1 _ hxt, TreeAt.same s1 _ hyt, fit_bs hf (List.getElem_mem hi1), depth_bs hd (List.getElem_mem hi1), fun H3 s3 => ?_⟩
      rw [drop_get (List.getElem?_eq_getElem hi1), drop_get (List.getElem?_eq_getElem hi2), cmpL_cons] at e1
      refine ⟨_, rfl, rfl, _, rfl, ?_⟩
      refine ite2 (fun c => ?_) (fun c => ?_)
      · have c' : cmp bs[i] cs[i] ≠ 0 := fun z => by simp [z] at c
        rw [if_pos c'] at e1
        exact ⟨_, rfl, by rw [← e1]; exact q _ (s1.trans s3)⟩
      · have c' : ¬ cmp bs[i] cs[i] ≠ 0 := fun z => c (by simp [z])
        rw [if_neg c'] at e1
        exact ⟨s1.trans s3, e1, _, _, rfl⟩
    · rintro σ H1 ⟨s1, e1, m, f, rfl⟩
      refine ⟨_, rfl, a, _, rfl, .inl (SqL.of (s1 _ _ ha)), _, rfl, b, _, rfl, .inl (SqL.of (s1 _ _ hb)), _, _, rfl, rfl, ?_⟩
      rw [el, em] at e1
      show Q (.int ((xs.length : Int) - (ys.length : Int))) H1
      rw [el, em, ← cmpL_end rfl, ← e1]
      exact q _ s1
/-! ### _law_told: as told_of, by insertion -/
/-- how many of the first ones are worth no less -/
def insK (x : Tt) : List Tt → Nat
  | [] => 0
  | y :: l => if 0 ≤ cmp y x then insK x l + 1 else 0
theorem insK_le (x : Tt) : ∀ l, insK x l ≤ l.length
  | [] => Nat.le_refl _
  | y :: l => by
    unfold insK
    split
    · exact Nat.succ_le_succ (insK_le x l)
    · exact Nat.zero_le _
theorem ins_at (x : Tt) : ∀ l, ins x l = l.take (insK x l) ++ x :: l.drop (insK x l)
  | [] => rfl
  | y :: l => by
    unfold ins insK
    split
    · rw [List.take_succ_cons, List.drop_succ_cons, List.cons_append, ← ins_at x l]
    · rfl
theorem insK_get (x : Tt) : ∀ (l : List Tt) (i : Nat) (y : Tt), l[i]? = some y → i ≤ insK x l → (0 ≤ cmp y x → i < insK x l) ∧ (cmp y x < 0 → i = insK x l)
  | [], i, y, h, _ => by simp at h
  | z :: l, 0, y, h, _ => by
    have e : z = y := Option.some.inj (by simpa using h)
    subst e
    unfold insK
    by_cases c : 0 ≤ cmp z x
    · rw [if_pos c]; exact ⟨fun _ => by omega, fun h => by omega⟩
    · rw [if_neg c]; exact ⟨fun h => absurd h c, fun _ => rfl⟩
  | z :: l, i + 1, y, h, hi => by
    unfold insK at hi ⊢
    by_cases c : 0 ≤ cmp z x
    · rw [if_pos c] at hi ⊢
      have ih := insK_get x l i y (by simpa using h) (by omega)
      exact ⟨fun q => by have := ih.1 q; omega, fun q => by have := ih.2 q; omega⟩
    · rw [if_neg c] at hi; omega
theorem ok__law_told (T : Txt K mg) : ∀ n, FnOk P w K mg base CX0 (n + 1) T.a__law_told T.d__law_told ["_law_tree_here"] (spToldOf n)
  | 0 => none_left fun vs H Q E ⟨v, t, _, _, _, h, _⟩ => by omega
  | n + 1 => by
    have G__law_told := ok__law_told T n
    have G__law_more := ok__law_more (P := P) (w := w) (base := base) T n
    refine T.F__law_told.ok sc__law_told (fun vs H Q E h => ?_) (fun cdv A outer s H vs Q E hr h => ?_)
    · obtain ⟨v, t, rfl, _⟩ := h; rfl
    obtain ⟨v, ⟨bs⟩, rfl, ht, hf, hd, q⟩ := h
    have R__law_told : Room (n + 1) _ := hr
    have R__law_more : Room n _ := hr.mono (by omega)
    rw [treeAt_mk] at ht
    rw [told_mk] at q
    obtain ⟨a, xs, rfl, ha, hbs⟩ := ht
    have flen := fit_len hf
    refine ⟨_, (pss_cons (ps_set (i := 1) sc__law_told.nd rfl (Or.inl rfl) (pe_lst pa_nil))
      (pss_cons (ps_for PassesOwn.never rfl (pi_list (pe_lc (own := [("_law_branch", 2)]) (g := gName 2) (tt := tYes) rfl sc__law_told.nd (pi_list (pv 0)) (blkOk_by (own := [("_law_branch", 2)]) (N := ["_law_tree_here", "_law_found", "_law_branch", "_law_at"]) (sc := defScope s__law_told) (by decide +kernel)) (fun _ _ _ _ _ => (pg_name (i := 2) sc__law_told.nd rfl (Or.inl rfl))) (fun _ _ _ _ _ => pts_nil) (fun _ _ _ _ _ => (pe_call G__law_told R__law_told rfl T.m__law_told T.k__law_told T.b__law_told .nil pass0 (pa_cons (pv 2) pa_nil))))) (pg_name (i := 2) sc__law_told.nd rfl (Or.inl rfl)) (pss_cons (ps_set (i := 3) sc__law_told.nd rfl (Or.inl rfl) pe_int)
        (pss_cons (ps_while PassesOwn.never (PW.pt (pw_and (pt_cmpR op_lt (pv 3) (pe_callB (r := rLenS K) call_len_seqK rfl T.z_len PySem.boot_len (pa_cons (pv 1) pa_nil)) (nomark _)) (pw_and1 (pt_cmpR op_ge (pe_call G__law_more R__law_more rfl T.m__law_more T.k__law_more T.b__law_more .nil pass0 (pa_cons (pe_ix (r := rIxL K) ix_list (pv 1) (pv 3) (fun _ _ => rfl)) (pa_cons (pv 2) pa_nil))) pe_int (nomark _))))) (pss_one (ps_set (i := 3) sc__law_told.nd rfl (Or.inl rfl) (pe_op op_add (pv 3) pe_int))))
        (pss_one (ps_expr (pe_bm PySem.F.plainAttrs_list PySem.F.slot_list_insert PySem.F.type_list_insert mt_insert (pv 1) (pa_cons (pv 3) (pa_cons (pv 2) pa_nil))))))))
      (pss_one (ps_ret (pv 1))))), ?_⟩
    refine ⟨(by show 0 ≤ sizeLine; decide), fun F nF => ?_⟩
    have sF := same_new nF (.lst [])
    -- the list of the told branches
    refine ⟨_, rfl, a, rfl, ⟨xs, SqL.of (sF _ _ ha)⟩, fun D nD => ?_⟩
    refine lc_it (walk_list (xs := xs)) (fun i H' => Grow (upd H F (.lst [])) H' D ((bs.take i).map told)) (Grow.start nD) (fun i H' _ g => SqL.of (g.same _ _ (sF _ _ ha))) ?_ ?_
    · rintro i x H1 H2 hi g ⟨rfl, hx⟩
      obtain ⟨b, hb, hxb⟩ := hbs.get hx
      have mb := List.mem_of_getElem? hb
      refine ⟨rfl, _, rfl, x, b, rfl, TreeAt.same g.same b (TreeAt.same sF b hxb), fit_bs hf mb, depth_bs hd mb, fun H3 r nw => ?_⟩
      obtain ⟨acc, h1, h2, h3⟩ := g.more nw
      refine ⟨acc, h1, ?_, ?_⟩
      · rw [h2, List.length_map, List.length_take]
        exact lim_line (Nat.le_trans (Nat.min_le_right _ _) flen)
      · rw [take_more hb, List.map_append]; exact h3
    · intro H1 g
      rw [hbs.len, List.take_length] at g
      obtain ⟨s1, _, acc, as, hD, ow, nd, fr⟩ := g
      have hF1 : H1 F = some (.lst []) := s1 _ _ upd_same
      have la : acc.length = bs.length := by rw [ow.len, List.length_map]
      obtain ⟨nDas, nas⟩ := List.nodup_cons.mp nd
      have frH : ∀ c, c ∈ as → H c = none := fun c hc => sF.free (fr c hc)
      have nFas : F ∉ as := fun hc => by have := fr F hc; rw [upd_same] at this; cases this
      have nDF : D ≠ F := fun e => by rw [e, upd_same] at nD; cases nD
      refine ⟨D, rfl, ⟨acc, SqL.of hD⟩, ?_⟩
      refine for_it (walk_list (xs := acc)) (fun i σ H' => ∃ o1 o2 fv as', σ = [some (.ref a), some (.ref F), o1, o2] ∧ (∀ b o, b ≠ F → H1 b = some o → H' b = some o) ∧ H' F = some (.lst fv) ∧ fv.length = i ∧ Owns H1 (fv ++ acc.drop i) (toldL [] (bs.take i) ++ (bs.map told).drop i) as' ∧ as'.Perm as) ?_ (fun i σ H' _ p => ?_) ?_ ?_
      · refine ⟨none, none, [], as, rfl, fun _ _ _ e => e, hF1, rfl, ?_, List.Perm.refl _⟩
        rw [List.take_zero, toldL_nil]; exact ow
      · obtain ⟨o1, o2, fv, as', _, k, _⟩ := p
        exact SqL.of (k _ _ nDF hD)
      · rintro i x σ H2 H3 hi ⟨o1, o2, fv, as', rfl, k, hF, lf, ow', pm⟩ ⟨rfl, hx⟩
        have hib : i < bs.length := by omega
        have hb : bs[i]? = some bs[i] := List.getElem?_eq_getElem hib
        have mb := List.getElem_mem hib
        have hmt : (bs.map told)[i]? = some (told bs[i]) := by rw [List.getElem?_map, hb]; rfl
        rw [drop_get hx, drop_get hmt] at ow'
        obtain ⟨v1, v2, a1, a2, e1, e2, p1, p2⟩ := ow'.split
        have l1 : v1.length = fv.length := by rw [p1.len, toldL_len, List.length_take, lf]; simp; omega
        obtain ⟨ev1, ev2⟩ := List.append_inj e1 l1.symm
        subst ev1 ev2 e2
        rw [owns_cons] at p2
        obtain ⟨x', vs', b1, b2, e3, e4, p3, p4⟩ := p2
        injection e3 with e3 e5
        subst e3 e5 e4
        have ns2 : ∀ c, c ∈ a1 ++ (b1 ++ b2) → c ≠ F := fun c hc e => nFas (by rw [← e]; exact pm.mem_iff.mp hc)
        have in2 : ∀ c, c ∈ a1 ++ (b1 ++ b2) → ∀ o, H1 c = some o → H3 c = some o := fun c hc o q => k c o (ns2 c hc) q
        have tsF : TreesAt H3 fv (toldL [] (bs.take i)) := Owns.at_ _ (Owns.frame _ p1 fun c hc o q => in2 c (List.mem_append_left _ hc) o q)
        have tx : TreeAt H3 x (told bs[i]) := Own.at_ _ (Own.frame _ p3 fun c hc o q => in2 c (List.mem_append_right _ (List.mem_append_left _ hc)) o q)
        have fl1 : ∀ y, y ∈ toldL [] (bs.take i) → fit y := fun y hy => by
          obtain ⟨z, hz, e⟩ := mem_toldL hy
          rw [e]
          exact fit_told z (fit_bs hf (List.mem_of_mem_take hz))
        have dl1 : ∀ y, y ∈ toldL [] (bs.take i) → depth y < n := fun y hy => by
          obtain ⟨z, hz, e⟩ := mem_toldL hy
          rw [e]
          exact depth_told (depth_bs hd (List.mem_of_mem_take hz))
        have lt : (toldL [] (bs.take i)).length = fv.length := tsF.len.symm
        -- at = 0
        show tSeq _ _ _ [some (V.ref a), some (V.ref F), some x, some (V.int 0)] H3
        refine ⟨fun m σ' H' => ∃ j : Nat, σ' = [some (.ref a), some (.ref F), some x, some (.int j)] ∧ m + j = fv.length ∧ j ≤ insK (told bs[i]) (toldL [] (bs.take i)) ∧ Same H3 H', ⟨fv.length, 0, rfl, rfl, Nat.zero_le _, Same.refl _⟩, ?_⟩
        rintro m σ' H4 ⟨j, rfl, hm, hj, s4⟩
        have hF4 := s4 _ _ hF
        have jl : j ≤ fv.length := by rw [← lt]; exact Nat.le_trans hj (insK_le _ _)
        refine cut_t (fun b H' => Same H4 H' ∧ b = decide (j < insK (told bs[i]) (toldL [] (bs.take i)))) (fun Q' hQ' => ?_) ?_
        · refine ⟨_, rfl, _, rfl, F, fv, rfl, .inl (SqL.of hF4), _, _, rfl, rfl, _, rfl, ?_⟩
          refine ite2 (fun c => ?_) (fun c => ?_)
          · have c' : (j : Int) < ((fv.length : Nat) : Int) := of_decide_eq_true c
            have jl2 : j < (toldL [] (bs.take i)).length := by omega
            obtain ⟨y, hy, hyt⟩ := tsF.get' (List.getElem?_eq_getElem jl2)
            have my := List.getElem_mem jl2
            refine ⟨_, rfl, _, rfl, F, fv, _, _, rfl, rfl, SqL.of hF4, atI_nat hy, _, rfl, y, x, _, _, rfl, TreeAt.same s4 _ hyt, TreeAt.same s4 _ tx, fl1 _ my, dl1 _ my, fun H5 s5 => ?_⟩
            have ig := insK_get (told bs[i]) _ j _ (List.getElem?_eq_getElem jl2) hj
            refine ⟨_, _, rfl, rfl, _, rfl, hQ' _ _ ⟨s5, ?_⟩⟩
            refine decide_eq_decide.mpr ⟨ig.1, fun h => ?_⟩
            by_cases c2 : (0 : Int) ≤ cmp (toldL [] (bs.take i))[j] (told bs[i])
            · exact c2
            · have := ig.2 (by omega); omega
          · have c' : ¬ (j : Int) < ((fv.length : Nat) : Int) := of_decide_eq_false (Bool.eq_false_iff.mpr c)
            refine hQ' _ _ ⟨Same.refl _, ?_⟩
            have := insK_le (told bs[i]) (toldL [] (bs.take i))
            exact (decide_eq_false (by omega)).symm
        rintro b6 H6 ⟨s6, rfl⟩
        refine ite2 (fun c => ?_) (fun c => ?_)
        · have c' := of_decide_eq_true c
          have := insK_le (told bs[i]) (toldL [] (bs.take i))
          refine ⟨fun σ'' H'' => ∃ m', m' < m ∧ ∃ j : Nat, σ'' = [some (.ref a), some (.ref F), some x, some (.int j)] ∧ m' + j = fv.length ∧ j ≤ insK (told bs[i]) (toldL [] (bs.take i)) ∧ Same H3 H'', fun _ _ h => h, ?_⟩
          refine ⟨_, rfl, _, _, rfl, rfl, m - 1, by omega, j + 1, ?_, by omega, by omega, s4.trans s6⟩
          show [_, _, _, some (V.int ((j : Int) + 1))] = _
          congr 1
        · have c' := of_decide_eq_false (Bool.eq_false_iff.mpr c)
          have ej : j = insK (told bs[i]) (toldL [] (bs.take i)) := by omega
          have hF6 := s6 _ _ hF4
          refine ⟨_, rfl, .inl ⟨rfl, _, SqL.of hF6⟩, _, rfl, _, rfl, F, fv, _, x, rfl, rfl, hF6, lim_line (by omega), by omega, ?_, ?_⟩
          · have : (lim : Int) < 2 ^ 63 := by decide
            omega
          · rw [Int.toNat_natCast]
            have eT : toldL [] (bs.take (i + 1)) = (toldL [] (bs.take i)).take j ++ told bs[i] :: (toldL [] (bs.take i)).drop j := by
              rw [toldL_more hb, merge_one, ins_at, ej]
            rw [← List.take_append_drop j (toldL [] (bs.take i))] at p1
            obtain ⟨w1, w2, c1, c2, ev, ea, q1, q2⟩ := p1.split
            subst ea
            have lw : w1.length = j := by rw [q1.len, List.length_take]; omega
            subst ev
            rw [List.take_left' lw, List.drop_left' lw, List.append_assoc, List.singleton_append]
            refine ⟨some x, some (.int j), w1 ++ x :: w2, (c1 ++ (b1 ++ c2)) ++ b2, rfl, fun b o nb e => ?_, upd_same, ?_, ?_, ?_⟩
            · rw [upd_ne nb]; exact s6 _ _ (s4 _ _ (k b o nb e))
            · rw [List.length_append, List.length_cons]
              rw [List.length_append] at lf
              omega
            · rw [eT]
              refine Owns.append (Owns.append q1 ?_) p4
              rw [owns_cons]
              exact ⟨x, w2, b1, c2, rfl, rfl, p3, q2⟩
            · refine List.Perm.trans ?_ pm
              rw [List.append_assoc, List.append_assoc, List.append_assoc]
              refine List.Perm.append_left c1 ?_
              rw [← List.append_assoc, ← List.append_assoc]
              exact List.Perm.append_right b2 List.perm_append_comm
      · rintro σ H2 ⟨o1, o2, fv, as', rfl, k, hF, lf, ow', pm⟩
        have z1 : acc.drop acc.length = [] := List.drop_length
        have z2 : (bs.map told).drop acc.length = [] := List.drop_eq_nil_of_le (by rw [List.length_map]; omega)
        have z3 : bs.take acc.length = bs := by rw [la, List.take_length]
        rw [z1, z2, z3, List.append_nil, List.append_nil] at ow'
        have nFas' : F ∉ as' := fun h => nFas (pm.mem_iff.mp h)
        refine ⟨_, rfl, q _ _ ⟨fun b o e => k b o (ne_of_none e nF) (s1 _ _ (sF _ _ e)), F :: as', ?_, ?_, ?_⟩⟩
        · rw [own_mk]
          exact ⟨F, fv, as', rfl, rfl, hF, Owns.frame _ ow' fun c hc o e => k c o (fun z => nFas' (by rw [← z]; exact hc)) e⟩
        · exact List.nodup_cons.mpr ⟨nFas', pm.nodup_iff.mpr nas⟩
        · intro c hc
          rcases List.mem_cons.mp hc with e | hc
          · rw [e]; exact nF
          · exact frH c (pm.mem_iff.mp hc)
end
section
variable {P : Program} {w : World} {K : PySem.W.Frag} {mg : Str → Option Value} {base : Heap}
/-! ### _law_is_tree -/
def spLawIsTree (n : Nat) : Sp := fun vs H Q _ => ∃ (v : V) (t : Tt), vs = [v] ∧ TreeAt H v t ∧ fit t ∧ depth t < n ∧ ∀ H', Same H H' → Q (.bl true) H'
theorem ok__law_is_tree (T : Txt K mg) : ∀ n, FnOk P w K mg base CX0 n T.a__law_is_tree T.d__law_is_tree ["_law_found"] (spLawIsTree n)
  | 0 => none_left fun vs H Q E ⟨v, t, _, _, _, h, _⟩ => by omega
  | n + 1 => by
    have G__law_is_tree := ok__law_is_tree T n
    refine T.F__law_is_tree.ok sc__law_is_tree (fun vs H Q E h => ?_) (fun cdv A outer s H vs Q E hr h => ?_)
    · obtain ⟨v, t, rfl, _⟩ := h; rfl
    obtain ⟨v, ⟨bs⟩, rfl, ht, hf, hd, q⟩ := h
    have R__law_is_tree : Room n _ := hr
    rw [treeAt_mk] at ht
    obtain ⟨a, xs, rfl, ha, hbs⟩ := ht
    obtain ⟨h1, h2⟩ := list_isi (K := K) ha
    refine ⟨_, (pss_one (ps_ret (pe_and (pe_callB (r := rIsi K) call_isi (by rfl) T.z_isinstance (by decide +kernel) (pa_cons (pv 0) (pa_cons (pe_bltn (v := .ty "list") (u := .type "list") (by rfl) T.z_list (by decide +kernel) rfl) pa_nil))) (pe_one (pe_callB (r := rAll K) (cr_all rfl) (by rfl) T.z_all (by decide +kernel) (pa_cons (pe_lc (own := [("_law_branch", 1)]) (g := gName 1) (tt := tYes) rfl sc__law_is_tree.nd (pi_list (pv 0)) (blkOk_by (own := [("_law_branch", 1)]) (N := ["_law_found", "_law_branch"]) (sc := defScope s__law_is_tree) (by decide +kernel)) (fun _ _ _ _ _ => (pg_name (i := 1) sc__law_is_tree.nd rfl (Or.inl rfl))) (fun _ _ _ _ _ => pts_nil) (fun _ _ _ _ _ => (pe_call G__law_is_tree R__law_is_tree rfl T.m__law_is_tree T.k__law_is_tree T.b__law_is_tree .nil pass0 (pa_cons (pv 1) pa_nil)))) pa_nil)))))), ?_⟩
    refine ⟨_, rfl, _, _, _, _, true, rfl, ClsV.ty _, h1, h2, _, rfl, iteT ?_⟩
    refine ⟨_, rfl, a, rfl, ⟨xs, SqL.of ha⟩, fun D nD => ?_⟩
    refine lc_it (walk_list (xs := xs)) (fun i H' => Fill H H' D ((List.replicate i true).map V.bl)) (Fill.start nD) (fun i H' _ g => SqL.of (g.1 _ _ ha)) ?_ ?_
    · rintro i x H1 H2 hi g ⟨rfl, hx⟩
      obtain ⟨b, hb, hxb⟩ := hbs.get hx
      have mb := List.mem_of_getElem? hb
      refine ⟨rfl, _, rfl, x, b, rfl, TreeAt.same g.1 b hxb, fit_bs hf mb, depth_bs hd mb, fun H3 s3 => ?_⟩
      obtain ⟨k1, k2⟩ := g.more (v := .bl true) s3
      refine ⟨_, k1, ?_, ?_⟩
      · rw [List.length_map, List.length_replicate]
        exact lim_line (by have := fit_len hf; have := hbs.len; omega)
      · rw [List.replicate_succ', List.map_append]; exact k2
    · intro H1 g
      refine ⟨D, _, rfl, SqL.of g.2.2, ?_⟩
      have e : (List.replicate xs.length true).all id = true := by simp
      rw [e]
      exact q _ g.1
/-! ### _law_own: all knots' places behind one another -/
theorem Kept.trans {l : Addr} {H H1 H2 : Hp} (a : Kept l H H1) (b : Kept l H1 H2) : Kept l H H2 := fun c o n e => b c o n (a c o n e)
theorem Kept.of_same {l : Addr} {H H1 : Hp} (s : Same H H1) : Kept l H H1 := fun c o _ e => s c o e
def spLawOwn (n : Nat) : Sp := fun vs H Q _ => ∃ (v : V) (t : Tt) (as : List Addr) (l : Addr) (vs0 : List V), vs = [v, .ref l] ∧ Own H v t as ∧ l ∉ as ∧ H l = some (.lst vs0) ∧ vs0.length + as.length ≤ lim ∧ depth t < n ∧
  ∀ H', Kept l H H' → H' l = some (.lst (vs0 ++ as.tail.map V.ref)) → Q (.ref l) H'
theorem ok__law_own (T : Txt K mg) : ∀ n, FnOk P w K mg base CX0 n T.a__law_own T.d__law_own ["_law_tree_here", "_law_own_here"] (spLawOwn n)
  | 0 => none_left fun vs H Q E ⟨v, t, as, l, vs0, _, _, _, _, _, h, _⟩ => by omega
  | n + 1 => by
    have G__law_own := ok__law_own T n
    refine T.F__law_own.ok sc__law_own (fun vs H Q E h => ?_) (fun cdv A outer s H vs Q E hr h => ?_)
    · obtain ⟨v, t, as, l, vs0, rfl, _⟩ := h; rfl
    obtain ⟨v, ⟨bs⟩, as, l, vs0, rfl, ho, nl, hl, hlen, hd, q⟩ := h
    have R__law_own : Room n _ := hr
    rw [own_mk] at ho
    obtain ⟨a, xs, as', rfl, rfl, ha, ow⟩ := ho
    have nla : l ≠ a := fun e => nl (by rw [e]; exact List.mem_cons_self)
    have nl' : l ∉ as' := fun h => nl (List.mem_cons_of_mem _ h)
    rw [List.length_cons] at hlen
    refine ⟨_, (pss_cons (ps_for PassesOwn.never rfl (pi_list (pe_callTy (r := rListOf K) call_list_ofK (by rfl) T.z_list (by decide +kernel) (pa_cons (pv 0) pa_nil))) (pg_name (i := 2) sc__law_own.nd rfl (Or.inl rfl)) (pss_cons (ps_expr (pe_bm PySem.F.plainAttrs_list PySem.F.slot_list_append PySem.F.type_list_append mt_append (pv 1) (pa_cons (pv 2) pa_nil)))
        (pss_one (ps_expr (pe_call G__law_own R__law_own rfl T.m__law_own T.k__law_own T.b__law_own .nil pass0 (pa_cons (pv 2) (pa_cons (pv 1) pa_nil)))))))
      (pss_one (ps_ret (pv 1)))), ?_⟩
    refine ⟨_, rfl, a, xs, rfl, .inl (SqL.of ha), fun C nC => ?_⟩
    have sC := same_new nC (.lst xs)
    have nlC : l ≠ C := fun e => by rw [e, nC] at hl; cases hl
    have eb : ∀ i, bs = bs.take i ++ bs.drop i := fun i => (List.take_append_drop i bs).symm
    refine ⟨C, rfl, ⟨xs, SqL.of upd_same⟩, ?_⟩
    refine for_it (walk_list (xs := xs)) (fun i σ H' => ∃ o a1 a2, σ = [some (.ref a), some (.ref l), o] ∧ Kept l (upd H C (.lst xs)) H' ∧ as' = a1 ++ a2 ∧ Owns H (xs.drop i) (bs.drop i) a2 ∧ H' l = some (.lst (vs0 ++ a1.map V.ref))) ?_ (fun i σ H' _ p => ?_) ?_ ?_
    · exact ⟨none, [], as', rfl, fun _ _ _ e => e, rfl, ow, by rw [List.map_nil, List.append_nil, upd_ne nlC]; exact hl⟩
    · obtain ⟨o, a1, a2, _, k, _⟩ := p
      exact SqL.of (k _ _ nlC.symm upd_same)
    · rintro i x σ H1 H2 hi ⟨o, a1, a2, rfl, k, rfl, ow2, hl2⟩ ⟨rfl, hx⟩
      have hib : i < bs.length := by have := ow.len; omega
      rw [drop_get hx, drop_get (List.getElem?_eq_getElem hib), owns_cons] at ow2
      obtain ⟨x', vs', b1, b2, e, rfl, p1, p2⟩ := ow2
      injection e with e1 e2
      subst e1 e2
      have mb := List.getElem_mem hib
      simp only [List.length_append] at hlen
      refine ⟨_, rfl, .inl ⟨rfl, _, SqL.of hl2⟩, _, rfl, l, _, x, rfl, rfl, hl2, ?_, ?_⟩
      · rw [List.length_append, List.length_map]
        exact lim_line (by omega)
      -- the branch's own place
      have hx2 : ∃ c b1', x = .ref c ∧ b1 = c :: b1' := by
        cases hb : bs[i] with
        | mk l3 =>
          rw [hb, own_mk] at p1
          obtain ⟨c, _, b1', h1, h2, _⟩ := p1
          exact ⟨c, b1', h1, h2⟩
      obtain ⟨c, b1', rfl, rfl⟩ := hx2
      have k3 : Kept l H2 (upd H2 l (.lst (vs0 ++ a1.map V.ref ++ [.ref c]))) := fun b o nb e => by rw [upd_ne nb]; exact e
      have p1' : Own (upd H2 l (.lst (vs0 ++ a1.map V.ref ++ [.ref c]))) (.ref c) bs[i] (c :: b1') := Own.frame _ p1 fun d hd u e =>
        have nd : d ≠ l := fun z => nl' (by rw [← z]; exact List.mem_append_right _ (List.mem_append_left _ hd))
        k3 d u nd (k d u nd (sC _ _ e))
      refine ⟨_, rfl, _, rfl, .ref c, bs[i], c :: b1', l, _, rfl, p1', fun h => nl' (List.mem_append_right _ (List.mem_append_left _ h)), upd_same, ?_, depth_bs hd mb, fun H5 k5 hl5 => ?_⟩
      · simp only [List.length_append, List.length_cons, List.length_map, List.length_nil] at hlen ⊢
        omega
      · refine ⟨some (.ref c), a1 ++ (c :: b1'), b2, rfl, k.trans (k3.trans k5), by rw [List.append_assoc], p2, ?_⟩
        rw [hl5, List.map_append, List.map_cons]
        simp
    · rintro σ H1 ⟨o, a1, a2, rfl, k, rfl, ow2, hl2⟩
      have e : bs.drop xs.length = [] := by rw [ow.len]; exact List.drop_length
      rw [e, owns_nil] at ow2
      obtain ⟨_, rfl⟩ := ow2
      refine ⟨_, rfl, q _ ((Kept.of_same sC).trans k) ?_⟩
      rw [hl2]; simp
/-! ### _law_spoilt: no list stands twice -/
def kids (H : Hp) (a : Addr) : List V := match H a with
  | some (.lst xs) => xs
  | _ => []
theorem kids_at {H : Hp} {a : Addr} {xs : List V} (h : H a = some (.lst xs)) : kids H a = xs := by unfold kids; rw [h]
mutual
theorem Own.kids {H : Hp} : ∀ {v : V} (t : Tt) {as : List Addr}, Own H v t as → fit t → ∀ a, a ∈ as → H a = some (.lst (Hg.kids H a)) ∧ (Hg.kids H a).length ≤ lim
  | v, .mk bs, as, h, hf, a, ha => by
    rw [own_mk] at h
    rw [fit_mk] at hf
    obtain ⟨b, vs, as', rfl, rfl, hb, ow⟩ := h
    rcases List.mem_cons.mp ha with e | ha
    · subst e
      rw [kids_at hb]
      exact ⟨hb, by rw [ow.len]; exact hf.1⟩
    · exact Owns.kids bs ow hf.2 a ha
theorem Owns.kids {H : Hp} : ∀ {vs : List V} (ts : List Tt) {as : List Addr}, Owns H vs ts as → fitL ts → ∀ a, a ∈ as → H a = some (.lst (Hg.kids H a)) ∧ (Hg.kids H a).length ≤ lim
  | vs, [], as, h, _, a, ha => by rw [owns_nil] at h; rw [h.2] at ha; cases ha
  | vs, b :: bs, as, h, hf, a, ha => by
    rw [owns_cons] at h
    rw [fitL] at hf
    obtain ⟨v, vs', a1, a2, rfl, rfl, o1, o2⟩ := h
    rcases List.mem_append.mp ha with ha | ha
    · exact Own.kids b o1 hf.1 a ha
    · exact Owns.kids bs o2 hf.2 a ha
end
mutual
theorem Own.len {H : Hp} : ∀ {v : V} (t : Tt) {as : List Addr}, Own H v t as → as.length = knots t
  | v, .mk bs, as, h => by
    rw [own_mk] at h
    obtain ⟨b, vs, as', rfl, rfl, hb, ow⟩ := h
    rw [List.length_cons, knots, Owns.lenK bs ow]
    omega
theorem Owns.lenK {H : Hp} : ∀ {vs : List V} (ts : List Tt) {as : List Addr}, Owns H vs ts as → as.length = knotsL ts
  | vs, [], as, h => by rw [owns_nil] at h; rw [h.2, knotsL]; rfl
  | vs, b :: bs, as, h => by
    rw [owns_cons] at h
    obtain ⟨v, vs', a1, a2, rfl, rfl, o1, o2⟩ := h
    rw [List.length_append, knotsL, Own.len b o1, Owns.lenK bs o2]
end
theorem dpInts {K : PySem.W.Frag} {H : Hp} : ∀ ns : List Int, DpAll K H (ns.map V.int) (ns.map PyData.int)
  | [] => .nil
  | n :: ns => .cons (.int n) (dpInts ns)
theorem intsLay : ∀ ns : List Int, PyData.canLayAll0 (ns.map PyData.int) = true
  | [] => by rw [List.map_nil, PyData.canLayAll0]
  | n :: ns => by rw [List.map_cons, PyData.canLayAll0, PyData.canLay0, intsLay ns]; rfl
theorem intsDepth : ∀ ns : List Int, PyData.depthAll (ns.map PyData.int) = 0
  | [] => by rw [List.map_nil, PyData.depthAll]
  | n :: ns => by rw [List.map_cons, PyData.depthAll, PyData.depth, intsDepth ns]; rfl
theorem intsShaped (ns : List Int) : SeqAt.shaped (.list (ns.map PyData.int)) = true := by
  show (PyData.canLay0 (.list (ns.map PyData.int)) && decide (PyData.depth (.list (ns.map PyData.int)) ≤ 64)) = true
  rw [PyData.canLay0, PyData.depth, intsLay, intsDepth]
  rfl
theorem intsEqv : ∀ ns ms : List Int, PyData.eqvAll (ns.map PyData.int) (ms.map PyData.int) = decide (ns = ms)
  | [], [] => by simp [PyData.eqvAll]
  | [], m :: ms => by simp [PyData.eqvAll]
  | n :: ns, [] => by simp [PyData.eqvAll]
  | n :: ns, m :: ms => by
    rw [List.map_cons, List.map_cons, PyData.eqvAll, PyData.eqv, intsEqv ns ms]
    by_cases h : n = m
    · subst h; simp
    · simp [h]
/-- == and != of two lists of ints -/
theorem eq_ints {K : PySem.W.Frag} {H : Hp} {a b : Addr} {ns ms : List Int} {Q : VK} (h1 : SqL K H a (ns.map V.int)) (h2 : SqL K H b (ms.map V.int)) (q : Q (.bl (decide (ns = ms))) H) : rEqD K (.ref a) (.ref b) H Q :=
  ⟨_, _, .lst h1 (dpInts ns), .lst h2 (dpInts ms), intsShaped ns, intsShaped ms, by rw [PyData.eqv, intsEqv]; exact q⟩
theorem ne_ints {K : PySem.W.Frag} {H : Hp} {a b : Addr} {ns ms : List Int} {Q : VK} (h1 : SqL K H a (ns.map V.int)) (h2 : SqL K H b (ms.map V.int)) (q : Q (.bl (!decide (ns = ms))) H) : rNeD K (.ref a) (.ref b) H Q :=
  ⟨_, _, .lst h1 (dpInts ns), .lst h2 (dpInts ms), intsShaped ns, intsShaped ms, by rw [PyData.eqv, intsEqv]; exact q⟩
def spLawSpoilt (n : Nat) : Sp := fun vs H Q _ => ∃ (v : V) (t : Tt) (as : List Addr), vs = [v] ∧ Own H v t as ∧ as.Nodup ∧ fit t ∧ knots t ≤ lim - 1 ∧ depth t < n ∧ ∀ H', (∀ b o, b ∉ as → H b = some o → H' b = some o) → Q (.bl true) H'
theorem ok__law_spoilt (T : Txt K mg) (n : Nat) : FnOk P w K mg base CX0 (n + 1) T.a__law_spoilt T.d__law_spoilt ["_law_tree_here"] (spLawSpoilt n) := by
  have G__law_own := ok__law_own (P := P) (w := w) (base := base) T n
  refine T.F__law_spoilt.ok sc__law_spoilt (fun vs H Q E h => ?_) (fun cdv A outer s H vs Q E hr h => ?_)
  · obtain ⟨v, t, as, rfl, _⟩ := h; rfl
  obtain ⟨v, t, as, rfl, ho, nd, hf, hk, hd, q⟩ := h
  have R__law_own : Room n _ := hr
  have hu64 := hr.units
  have hlen := Own.len t ho
  have kd := Own.kids t ho hf
  obtain ⟨a0, as0, eas, ev⟩ : ∃ a0 as0, as = a0 :: as0 ∧ v = .ref a0 := by
    cases t with
    | mk bs =>
      rw [own_mk] at ho
      obtain ⟨b, vs, as', h1, h2, _⟩ := ho
      exact ⟨b, as', h2, h1⟩
  have trk : ∀ a, a ∈ as → ∃ o, H a = some o := fun a ha => ⟨_, (kd a ha).1⟩
  have lpos : lim - 1 < lim := by decide
  refine ⟨_, (pss_cons (ps_set (i := 1) sc__law_spoilt.nd rfl (Or.inl rfl) (pe_call G__law_own R__law_own rfl T.m__law_own T.k__law_own T.b__law_own .nil pass0 (pa_cons (pv 0) (pa_cons (pe_lst (pa_cons (pv 0) pa_nil)) pa_nil))))
      (pss_cons (ps_setLc (i := 2) (own := [("_law_knot", 3)]) (g := gName 3) (tt := tYes) rfl sc__law_spoilt.nd rfl rfl (sw_true rfl rfl rfl (by decide +kernel)) (pi_list (pv 1)) (blkOk_by (own := [("_law_knot", 3)]) (N := ["_law_tree_here", "_law_own_here", "_law_sizes", "_law_knot", "_law_size"]) (sc := defScope s__law_spoilt) (by decide +kernel)) (fun _ _ _ _ _ => (pg_name (i := 3) sc__law_spoilt.nd rfl (Or.inl rfl))) (fun _ _ _ _ _ => pts_nil) (fun _ _ _ _ _ => (pe_callB (r := rLenS K) call_len_seqK rfl T.z_len PySem.boot_len (pa_cons (pv 3) pa_nil))))
      (pss_cons (ps_for PassesOwn.never rfl (pi_list (pv 1)) (pg_name (i := 3) sc__law_spoilt.nd rfl (Or.inl rfl)) (pss_one (ps_expr (pe_bm PySem.F.plainAttrs_list PySem.F.slot_list_append PySem.F.type_list_append mt_append (pv 3) (pa_cons pe_int pa_nil)))))
      (pss_one (ps_ret (pe_cmpR (r := rEqD K) (op_eqD hu64) (pe_lc (own := [("_law_knot", 3)]) (g := gName 3) (tt := tYes) rfl sc__law_spoilt.nd (pi_list (pv 1)) (blkOk_by (own := [("_law_knot", 3)]) (N := ["_law_tree_here", "_law_own_here", "_law_sizes", "_law_knot", "_law_size"]) (sc := defScope s__law_spoilt) (by decide +kernel)) (fun _ _ _ _ _ => (pg_name (i := 3) sc__law_spoilt.nd rfl (Or.inl rfl))) (fun _ _ _ _ _ => pts_nil) (fun _ _ _ _ _ => (pe_callB (r := rLenS K) call_len_seqK rfl T.z_len PySem.boot_len (pa_cons (pv 3) pa_nil)))) (pe_lc (own := [("_law_size", 4)]) (g := gName 4) (tt := tYes) rfl sc__law_spoilt.nd (pi_list (pv 2)) (blkOk_by (own := [("_law_size", 4)]) (N := ["_law_tree_here", "_law_own_here", "_law_sizes", "_law_knot", "_law_size"]) (sc := defScope s__law_spoilt) (by decide +kernel)) (fun _ _ _ _ _ => (pg_name (i := 4) sc__law_spoilt.nd rfl (Or.inl rfl))) (fun _ _ _ _ _ => pts_nil) (fun _ _ _ _ _ => (pe_op op_add (pv 4) pe_int))) (nomark _))))))), ?_⟩
  refine ⟨_, rfl, _, rfl, (by show 1 ≤ sizeLine; decide), fun l nl => ?_⟩
  have sl := same_new nl (.lst [v])
  have nlas : l ∉ as := fun h => by obtain ⟨o, e⟩ := trk l h; rw [nl] at e; cases e
  refine ⟨v, t, as, l, [v], rfl, Own.frame t ho fun a _ o e => sl _ _ e, nlas, upd_same, ?_, hd, fun H1 k1 hl1 => ?_⟩
  · rw [List.length_singleton, hlen]; omega
  have hl1' : H1 l = some (.lst (as.map V.ref)) := by rw [hl1, eas, ev]; rfl
  have s1 : Same H H1 := fun b o e => k1 b o (ne_of_none e nl) (sl _ _ e)
  have at1 : ∀ a, a ∈ as → H1 a = some (.lst (kids H a)) := fun a ha => s1 _ _ (kd a ha).1
  have lal : (as.map V.ref).length = as.length := List.length_map _
  have zl : ∀ i, i < as.length → i < sizeLine := fun i hi => lim_line (by omega)
  -- sizes
  refine ⟨_, rfl, l, rfl, ⟨_, SqL.of hl1'⟩, fun D nD => ?_⟩
  refine lc_it (walk_list (xs := as.map V.ref)) (fun i H' => Fill H1 H' D (((as.take i).map fun a => ((kids H a).length : Int)).map V.int)) (Fill.start nD) (fun i H' _ g => SqL.of (g.1 _ _ hl1')) ?_ ?_
  · rintro i x H2 H3 hi g ⟨rfl, hx⟩
    rw [lal] at hi
    have hai : as[i]? = some as[i] := List.getElem?_eq_getElem hi
    rw [List.getElem?_map, hai] at hx
    cases hx
    have ma := List.getElem_mem hi
    refine ⟨rfl, _, rfl, _, _, rfl, .inl (SqL.of (g.1 _ _ (at1 _ ma))), ?_⟩
    obtain ⟨h1, h2⟩ := g.more (v := .int ((kids H as[i]).length : Int)) (Same.refl _)
    refine ⟨_, h1, ?_, ?_⟩
    · rw [List.length_map, List.length_map, List.length_take]
      exact zl _ (by omega)
    · rw [take_more hai, List.map_append, List.map_append]; exact h2
  intro H2 g2
  rw [lal, List.take_length] at g2
  obtain ⟨s2, _, hD2⟩ := g2
  have nDas : D ∉ as := fun h => by have := at1 _ h; rw [nD] at this; cases this
  have nDl : D ≠ l := fun e => by rw [e, hl1'] at nD; cases nD
  -- knot.append(0)
  refine ⟨_, rfl, l, rfl, ⟨_, SqL.of (s2 _ _ hl1')⟩, ?_⟩
  refine for_it (walk_list (xs := as.map V.ref)) (fun i σ H' => ∃ o o2, σ = [some v, some (.ref l), some (.ref D), o, o2] ∧ (∀ b u, b ∉ as → H2 b = some u → H' b = some u) ∧ (∀ j a, as[j]? = some a → H' a = some (.lst (if j < i then kids H a ++ [.int 0] else kids H a)))) ?_ (fun i σ H' _ p => ?_) ?_ ?_
  · exact ⟨none, none, rfl, fun _ _ _ e => e, fun j a h => by rw [if_neg (Nat.not_lt_zero j)]; exact s2 _ _ (at1 _ (List.mem_of_getElem? h))⟩
  · obtain ⟨o, o2, _, k, _⟩ := p
    exact SqL.of (k _ _ nlas (s2 _ _ hl1'))
  · rintro i x σ H3 H4 hi ⟨o, o2, rfl, k3, at3⟩ ⟨rfl, hx⟩
    rw [lal] at hi
    have hai : as[i]? = some as[i] := List.getElem?_eq_getElem hi
    rw [List.getElem?_map, hai] at hx
    cases hx
    have ma := List.getElem_mem hi
    have hi3 := at3 i _ hai
    rw [if_neg (Nat.lt_irrefl i)] at hi3
    refine ⟨_, rfl, .inl ⟨rfl, _, SqL.of hi3⟩, _, _, _, rfl, rfl, hi3, lim_line (kd _ ma).2, ?_⟩
    refine ⟨_, o2, rfl, fun b u nb e => ?_, fun j a hj => ?_⟩
    · rw [upd_ne (fun z => nb (by rw [z]; exact ma))]; exact k3 b u nb e
    · by_cases e : j = i
      · subst e
        rw [hai] at hj
        cases hj
        rw [upd_same, if_pos (Nat.lt_succ_self j)]
      · have nea : a ≠ as[i] := fun z => e (nd_ix nd hj (by rw [hai, z]))
        rw [upd_ne nea, at3 j a hj]
        by_cases hlt : j < i
        · rw [if_pos hlt, if_pos (by omega)]
        · rw [if_neg hlt, if_neg (by omega)]
  rintro σ H3 ⟨o, o2, rfl, k3, at3⟩
  rw [lal] at at3
  have hl3 := k3 _ _ nlas (s2 _ _ hl1')
  have hD3 := k3 _ _ nDas hD2
  have all3 : ∀ j a, as[j]? = some a → H3 a = some (.lst (kids H a ++ [.int 0])) := fun j a h => by
    have := at3 j a h
    rw [if_pos (List.getElem?_eq_some_iff.mp h).1] at this
    exact this
  -- the sizes behind it
  refine ⟨_, rfl, l, rfl, ⟨_, SqL.of hl3⟩, fun D2 nD2 => ?_⟩
  refine lc_it (walk_list (xs := as.map V.ref)) (fun i H' => Fill H3 H' D2 (((as.take i).map fun a => ((kids H a).length : Int) + 1).map V.int)) (Fill.start nD2) (fun i H' _ g => SqL.of (g.1 _ _ hl3)) ?_ ?_
  · rintro i x H4 H5 hi g ⟨rfl, hx⟩
    rw [lal] at hi
    have hai : as[i]? = some as[i] := List.getElem?_eq_getElem hi
    rw [List.getElem?_map, hai] at hx
    cases hx
    refine ⟨rfl, _, rfl, _, _, rfl, .inl (SqL.of (g.1 _ _ (all3 _ _ hai))), ?_⟩
    obtain ⟨h1, h2⟩ := g.more (v := .int (((kids H as[i] ++ [V.int 0]).length : Nat) : Int)) (Same.refl _)
    refine ⟨_, h1, ?_, ?_⟩
    · rw [List.length_map, List.length_map, List.length_take]
      exact zl _ (by omega)
    · rw [take_more hai, List.map_append, List.map_append]
      have e : (((kids H as[i] ++ [V.int 0]).length : Nat) : Int) = ((kids H as[i]).length : Int) + 1 := by rw [List.length_append]; rfl
      rw [e] at h2 ⊢
      exact h2
  intro H4 g4
  rw [lal, List.take_length] at g4
  obtain ⟨s4, _, hD4⟩ := g4
  refine ⟨_, rfl, D, rfl, ⟨_, SqL.of (s4 _ _ hD3)⟩, fun D3 nD3 => ?_⟩
  refine lc_it (walk_list (xs := (as.map fun a => ((kids H a).length : Int)).map V.int)) (fun i H' => Fill H4 H' D3 (((as.take i).map fun a => ((kids H a).length : Int) + 1).map V.int)) (Fill.start nD3) (fun i H' _ g => SqL.of (g.1 _ _ (s4 _ _ hD3))) ?_ ?_
  · rintro i x H5 H6 hi g ⟨rfl, hx⟩
    rw [List.length_map, List.length_map] at hi
    have hai : as[i]? = some as[i] := List.getElem?_eq_getElem hi
    rw [List.getElem?_map, List.getElem?_map, hai] at hx
    cases hx
    refine ⟨rfl, _, rfl, _, _, rfl, rfl, ?_⟩
    obtain ⟨h1, h2⟩ := g.more (v := .int (((kids H as[i]).length : Int) + 1)) (Same.refl _)
    refine ⟨_, h1, ?_, ?_⟩
    · rw [List.length_map, List.length_map, List.length_take]
      exact zl _ (by omega)
    · rw [take_more hai, List.map_append, List.map_append]; exact h2
  intro H5 g5
  rw [List.length_map, List.length_map, List.take_length] at g5
  refine eq_ints (SqL.of (g5.1 _ _ hD4)) (SqL.of g5.2.2) ?_
  rw [decide_eq_true rfl]
  refine q _ fun b u nb e => ?_
  have nbl : b ≠ l := ne_of_none e nl
  exact g5.1 _ _ (s4 _ _ (k3 _ _ nb (s2 _ _ (s1 _ _ e))))
end
section
variable {P : Program} {w : World} {K : PySem.W.Frag} {mg : Str → Option Value} {base : Heap}
/-! ### _law_turned -/
theorem knotsL_rev : ∀ l : List Tt, knotsL l.reverse = knotsL l
  | [] => rfl
  | x :: l => by rw [List.reverse_cons, knotsL_append, knotsL_rev l, knotsL, knotsL, knotsL]; omega
theorem depthL_rev : ∀ l : List Tt, depthL l.reverse = depthL l
  | [] => rfl
  | x :: l => by rw [List.reverse_cons, depthL_append, depthL_rev l, depthL, depthL, depthL]; omega
theorem TreesAt.rev {H : Hp} : ∀ {vs : List V} {ts : List Tt}, TreesAt H vs ts → TreesAt H vs.reverse ts.reverse
  | vs, [], h => by rw [treesAt_nil] at h; subst h; exact (by rw [List.reverse_nil, List.reverse_nil, treesAt_nil])
  | vs, b :: bs, h => by
    rw [treesAt_cons] at h
    obtain ⟨v, vs', rfl, h1, h2⟩ := h
    rw [List.reverse_cons, List.reverse_cons]
    exact TreesAt.append (TreesAt.rev h2) (TreesAt.one h1)
def spLawTurned (n : Nat) : Sp := fun vs H Q _ => ∃ (v : V) (t : Tt), vs = [v] ∧ TreeAt H v t ∧ fit t ∧ depth t < n ∧ ∀ H' r t', New H H' r t' → knots t' = knots t → depth t' = depth t → Q r H'
theorem ok__law_turned (T : Txt K mg) : ∀ n, FnOk P w K mg base CX0 n T.a__law_turned T.d__law_turned ["_law_tree_here"] (spLawTurned n)
  | 0 => none_left fun vs H Q E ⟨v, t, _, _, _, h, _⟩ => by omega
  | n + 1 => by
    have G__law_turned := ok__law_turned T n
    refine T.F__law_turned.ok sc__law_turned (fun vs H Q E h => ?_) (fun cdv A outer s H vs Q E hr h => ?_)
    · obtain ⟨v, t, rfl, _⟩ := h; rfl
    obtain ⟨v, ⟨bs⟩, rfl, ht, hf, hd, q⟩ := h
    have R__law_turned : Room n _ := hr
    rw [treeAt_mk] at ht
    obtain ⟨a, xs, rfl, ha, hbs⟩ := ht
    refine ⟨_, (pss_one (ps_ret (pe_lc (own := [("_law_branch", 1)]) (g := gName 1) (tt := tYes) rfl sc__law_turned.nd (pi_list (pe_revL (pv 0))) (blkOk_by (own := [("_law_branch", 1)]) (N := ["_law_tree_here", "_law_branch"]) (sc := defScope s__law_turned) (by decide +kernel)) (fun _ _ _ _ _ => (pg_name (i := 1) sc__law_turned.nd rfl (Or.inl rfl))) (fun _ _ _ _ _ => pts_nil) (fun _ _ _ _ _ => (pe_call G__law_turned R__law_turned rfl T.m__law_turned T.k__law_turned T.b__law_turned .nil pass0 (pa_cons (pv 1) pa_nil)))))), ?_⟩
    refine ⟨_, rfl, a, xs, rfl, SqL.of ha, fun p np => ?_⟩
    have sp := same_new np (.lst xs.reverse)
    have hr2 := TreesAt.same sp _ hbs.rev
    refine ⟨p, rfl, ⟨_, SqL.of upd_same⟩, fun D nD => ?_⟩
    refine lc_it (walk_list (xs := xs.reverse)) (fun i H' => ∃ us, Grow (upd H p (.lst xs.reverse)) H' D us ∧ us.length = i ∧ knotsL us = knotsL (bs.reverse.take i) ∧ depthL us = depthL (bs.reverse.take i)) ⟨[], Grow.start nD, rfl, rfl, rfl⟩ (fun i H' _ ⟨us, g, _⟩ => SqL.of (g.same _ _ upd_same)) ?_ ?_
    · rintro i x H1 H2 hi ⟨us, g, lu, ku, du⟩ ⟨rfl, hx⟩
      obtain ⟨b, hb, hxb⟩ := hr2.get hx
      have mb : b ∈ bs := List.mem_reverse.mp (List.mem_of_getElem? hb)
      refine ⟨rfl, _, rfl, x, b, rfl, TreeAt.same g.same b hxb, fit_bs hf mb, depth_bs hd mb, fun H3 r t' nw k1 d1 => ?_⟩
      obtain ⟨acc, h1, h2, h3⟩ := g.more nw
      refine ⟨acc, h1, ?_, us ++ [t'], h3, ?_, ?_, ?_⟩
      · rw [List.length_reverse] at hi
        exact lim_line (by have := fit_len hf; have := hbs.len; omega)
      · rw [List.length_append, lu]; rfl
      · rw [take_more hb, knotsL_append, knotsL_append, ku]; simp only [knotsL, k1]
      · rw [take_more hb, depthL_append, depthL_append, du]; simp only [depthL, d1]
    · rintro H1 ⟨us, g, lu, ku, du⟩
      have e : bs.reverse.take xs.reverse.length = bs.reverse := by rw [List.length_reverse, hbs.len, ← List.length_reverse (as := bs), List.take_length]
      rw [e] at ku du
      refine q _ _ _ (g.done.of sp) ?_ ?_
      · rw [knots, knots, ku, knotsL_rev]
      · rw [depth, depth, du, depthL_rev]
/-! ### _law_tree -/
theorem cutV_take (xs : List V) (k : Nat) : cutV xs none (some (k : Int)) = xs.take k := by
  unfold cutV
  rw [HT.sIx_none, HT.sIx_nat, List.drop_zero, Nat.sub_zero]
  by_cases h : k ≤ xs.length
  · rw [Nat.min_eq_left h]
  · rw [Nat.min_eq_right (by omega), List.take_length, List.take_of_length_le (by omega)]
theorem cutV_drop (xs : List V) (k : Nat) : cutV xs (some (k : Int)) none = xs.drop k := by
  unfold cutV
  rw [HT.sIx_none, HT.sIx_nat]
  by_cases h : k ≤ xs.length
  · rw [Nat.min_eq_left h, List.take_of_length_le (by rw [List.length_drop]; omega)]
  · rw [Nat.min_eq_right (by omega), List.drop_eq_nil_of_le (Nat.le_refl _), List.drop_eq_nil_of_le (by omega), List.take_nil]
def spLawTree (K : PySem.W.Frag) : Sp := fun vs H Q _ => ∃ (a : Addr) (ns : List Int) (most byy : Nat), vs = [.ref a, .int most, .int byy] ∧ SqL K H a (ns.map V.int) ∧ (∀ n, n ∈ ns → Bits n NB) ∧ 1 ≤ most ∧ most ≤ 63 ∧ byy ≤ 100 ∧
  ∀ H' r t, New H H' r t → knots t ≤ most + 1 → depth t ≤ most → Q r H'
theorem ok__law_tree (T : Txt K mg) : FnOk P w K mg base CX0 2 T.a__law_tree T.d__law_tree ["_law_script", "_law_most", "_law_by"] (spLawTree K) := by
  have G__law_number := ok__law_number (P := P) (w := w) (base := base) T
  refine T.F__law_tree.ok sc__law_tree (fun vs H Q E h => ?_) (fun cdv A outer s H vs Q E hr h => ?_)
  · obtain ⟨a, ns, most, byy, rfl, _⟩ := h; rfl
  obtain ⟨a, ns, most, byy, rfl, hS, hB, hm1, hm63, hby, q⟩ := h
  have R__law_number : Room 1 _ := hr
  have hu64 := hr.units
  refine ⟨_, (pss_cons (ps_set (i := 3) sc__law_tree.nd rfl (Or.inl rfl) (pe_ifExp (pt_cmpR (r := rNeD K) (op_neD hu64) (pv 0) (pe_lst pa_nil) (nomark _)) (pe_slice (r := rSlL K) sl_list (pv 0) po_none (po_some (pv 1))) (pe_lst (pa_cons pe_int pa_nil))))
      (pss_cons (ps_set (i := 4) sc__law_tree.nd rfl (Or.inl rfl) (pe_lst pa_nil))
      (pss_cons (ps_set (i := 5) sc__law_tree.nd rfl (Or.inl rfl) (pe_lst (pa_cons (pv 4) pa_nil)))
      (pss_cons (ps_for PassesOwn.never rfl (pi_enum (by rfl) T.z_enumerate (pa_cons (pv 3) pa_nil)) (pg_tup rfl (pgs_cons (pg_name (i := 6) sc__law_tree.nd rfl (Or.inl rfl)) (pgs_cons (pg_name (i := 7) sc__law_tree.nd rfl (Or.inl rfl)) pgs_nil))) (pss_cons (ps_set (i := 8) sc__law_tree.nd rfl (Or.inl rfl) (pe_call G__law_number R__law_number rfl T.m__law_number T.k__law_number T.b__law_number .nil pass0 (pa_cons (pv 7) (pa_cons (pe_op op_add (pv 6) (pv 2)) (pa_cons (pe_callB (r := rLenS K) call_len_seqK rfl T.z_len PySem.boot_len (pa_cons (pv 3) pa_nil)) pa_nil)))))
        (pss_cons (ps_set (i := 9) sc__law_tree.nd rfl (Or.inl rfl) (pe_op op_mod (pe_op op_add (pe_callB (r := rLenS K) call_len_seqK rfl T.z_len PySem.boot_len (pa_cons (pv 3) pa_nil)) (pv 2)) pe_int))
        (pss_cons (ps_set (i := 10) sc__law_tree.nd rfl (Or.inl rfl) (pe_op op_mod (pe_op op_fdivW (pv 8) pe_int) (pe_callB (r := rLenS K) call_len_seqK rfl T.z_len PySem.boot_len (pa_cons (pv 5) pa_nil))))
        (pss_cut2 (ps_if (pt_cmpR op_gt (pv 9) pe_int (nomark _)) (pss_one (ps_set (i := 10) sc__law_tree.nd rfl (Or.inl rfl) (pe_op op_sub (pe_op op_sub (pe_callB (r := rLenS K) call_len_seqK rfl T.z_len PySem.boot_len (pa_cons (pv 5) pa_nil)) pe_int) (pe_op op_mod (pe_op op_fdivW (pv 8) pe_int) (pe_callB (call_min2 rfl) (by rfl) T.z_min (by decide +kernel) (pa_cons (pe_callB (r := rLenS K) call_len_seqK rfl T.z_len PySem.boot_len (pa_cons (pv 5) pa_nil)) (pa_cons (pe_op op_add pe_int (pe_op op_mulX (pv 9) pe_int)) pa_nil))))))) pss_nil)
        (pss_cons (ps_set (i := 11) sc__law_tree.nd rfl (Or.inl rfl) (pe_lst pa_nil))
        (pss_cut2 (ps_if (pt_cmpR op_eq (pe_op op_mod (pv 8) pe_int) pe_int (nomark _)) (pss_one (ps_expr (pe_bm PySem.F.plainAttrs_list PySem.F.slot_list_append PySem.F.type_list_append mt_append (pe_ix (r := rIxL K) ix_list (pv 5) (pv 10) (fun _ _ => rfl)) (pa_cons (pv 11) pa_nil)))) (pss_one (ps_expr (pe_bm PySem.F.plainAttrs_list PySem.F.slot_list_insert PySem.F.type_list_insert mt_insert (pe_ix (r := rIxL K) ix_list (pv 5) (pv 10) (fun _ _ => rfl)) (pa_cons pe_int (pa_cons (pv 11) pa_nil))))))
        (pss_one (ps_expr (pe_bm PySem.F.plainAttrs_list PySem.F.slot_list_append PySem.F.type_list_append mt_append (pv 5) (pa_cons (pv 11) pa_nil)))))))))))
      (pss_one (ps_ret (pv 4))))))), ?_⟩
  -- the cells
  suffices hcells : ∀ (Hc : Hp) (Ce : Addr) (cs : List Int), Same H Hc → Hc Ce = some (.lst (cs.map V.int)) → (∀ n, n ∈ cs → Bits n NB) → cs.length ≤ most →
      tSeq _ _ _ [some (V.ref a), some (.int most), some (.int byy), some (.ref Ce), none, none, none, none, none, none, none, none] Hc by
    refine ⟨_, rfl, (by show 0 ≤ sizeLine; decide), fun p np => ?_⟩
    have sp := same_new np (.lst [])
    refine ne_ints (ns := ns) (ms := []) (sp.seq hS) (SqL.of upd_same) ⟨_, rfl, ?_⟩
    refine ite2 (fun _ => ?_) (fun _ => ?_)
    · refine ⟨_, rfl, _, rfl, _, rfl, a, _, rfl, sp.seq hS, fun Ce nC => ?_⟩
      rw [cutV_take]
      refine hcells _ Ce (ns.take most) (sp.trans (same_new nC _)) ?_ (fun n hn => hB n (List.mem_of_mem_take hn)) (by rw [List.length_take]; exact Nat.min_le_left _ _)
      rw [upd_same, List.map_take]
    · refine ⟨(by show 1 ≤ sizeLine; decide), fun Ce nC => ?_⟩
      refine hcells _ Ce [3] (sp.trans (same_new nC _)) upd_same (fun n hn => ?_) hm1
      rw [List.mem_singleton] at hn
      rw [hn]
      exact Bits.mono (a := 2) (by show (3 : Nat) < 4; decide) (by decide)
  intro Hc Ce cs sc hCe hcB hcl
  -- the tree, the list of its knots
  refine ⟨(by show 0 ≤ sizeLine; decide), fun R nR => ?_⟩
  have s1 := same_new nR (.lst [])
  refine ⟨_, rfl, (by show 1 ≤ sizeLine; decide), fun O nO => ?_⟩
  have s2 := same_new nO (.lst [.ref R])
  have nOR : O ≠ R := fun e => by rw [e, upd_same] at nO; cases nO
  have nOc : Hc O = none := s1.free nO
  refine ⟨_, rfl, Ce, _, rfl, SqL.of (s2 _ _ (s1 _ _ hCe)), ?_⟩
  refine for_it (walk_enum (xs := cs.map V.int)) (fun i σ H' => ∃ (o6 o7 o8 o9 o10 o11 : Option V) (t : Tt) (as os : List Addr), σ = [some (.ref a), some (.int most), some (.int byy), some (.ref Ce), some (.ref R), some (.ref O), o6, o7, o8, o9, o10, o11] ∧
      Same Hc H' ∧ Own H' (.ref R) t as ∧ as.Nodup ∧ (∀ c, c ∈ as → Hc c = none) ∧ O ∉ as ∧ H' O = some (.lst (os.map V.ref)) ∧ os.length = i + 1 ∧ (∀ c, c ∈ os → c ∈ as) ∧ knots t = i + 1 ∧ depth t ≤ i) ?_ (fun i σ H' _ p => ?_) ?_ ?_
  · refine ⟨none, none, none, none, none, none, .mk [], [R], [R], rfl, s1.trans s2, ?_, List.nodup_cons.mpr ⟨by simp, List.nodup_nil⟩, fun c hc => ?_, ?_, upd_same, rfl, fun c hc => hc, by rw [knots, knotsL], by rw [depth, depthL]; exact Nat.le_refl 0⟩
    · rw [own_mk]
      exact ⟨R, [], [], rfl, rfl, s2 _ _ upd_same, by rw [owns_nil]; exact ⟨rfl, rfl⟩⟩
    · rw [List.mem_singleton] at hc
      rw [hc]; exact nR
    · rw [List.mem_singleton]; exact nOR
  · obtain ⟨_, _, _, _, _, _, t, as, os, _, sm, _⟩ := p
    exact SqL.of (sm _ _ hCe)
  · rintro i x σ H1 H2 hi ⟨o6, o7, o8, o9, o10, o11, t, as, os, rfl, sm, ow, nd, fr, nOas, hO, lo, so, kt, dt⟩ ⟨Tp, x1, y1, rfl, nT, rfl, hx, hy⟩
    have sT := same_new nT (.tup [x1, y1])
    cases hx
    rw [List.length_map] at hi
    have hci : cs[i]? = some cs[i] := List.getElem?_eq_getElem hi
    replace hy : (cs.map V.int)[i]? = some y1 := hy
    rw [List.getElem?_map, hci] at hy
    cases hy
    have mc := List.getElem_mem hi
    have hCe1 := sT _ _ (sm _ _ hCe)
    have hO1 := sT _ _ hO
    have ow1 : Own (upd H1 Tp (.tup [.int (i : Nat), .int cs[i]])) (.ref R) t as := Own.frame t ow fun c _ u e => sT _ _ e
    have lcs : (cs.map V.int).length = cs.length := List.length_map _
    have los : (os.map V.ref).length = os.length := List.length_map _
    generalize hH3 : upd H1 Tp (.tup [.int (i : Nat), .int cs[i]]) = H3 at sT hCe1 hO1 ow1 ⊢
    refine ⟨Tp, _, rfl, SqT.of (by rw [← hH3]; exact upd_same), rfl, _, _, rfl, _, _, rfl, rfl, ?_⟩
    refine ⟨_, rfl, _, rfl, _, rfl, _, _, rfl, rfl, _, rfl, Ce, _, rfl, .inl (SqL.of hCe1), cs[i], (((cs.map V.int).length : Nat) : Int), i + byy, rfl, hcB _ mc, ?_, by omega, fun z hz => ?_⟩
    · rw [lcs]
      exact Bits.mono (a := 7) (Bits.lt (n := 128) (by omega) (by omega) (by decide)) (by decide)
    -- kind, spot
    refine ⟨_, rfl, Ce, _, rfl, .inl (SqL.of hCe1), _, rfl, _, _, rfl, rfl, _, _, rfl, rfl, (by show (0 : Int) < 3; decide), ?_⟩
    refine ⟨_, rfl, _, _, rfl, rfl, wide_div (b := 2) (by decide) (by decide) (by decide) (by decide), _, rfl, O, _, rfl, .inl (SqL.of hO1), _, _, rfl, rfl, (by show (0 : Int) < (((os.map V.ref).length : Nat) : Int); rw [los]; omega), ?_⟩
    have k0 : 0 ≤ ((((cs.map V.int).length : Nat) : Int) + (byy : Int)) % 3 := Int.emod_nonneg _ (by decide)
    have k1 : ((((cs.map V.int).length : Nat) : Int) + (byy : Int)) % 3 < 3 := Int.emod_lt_of_pos _ (by decide)
    have p0 : 0 ≤ z / 3 % (((os.map V.ref).length : Nat) : Int) := Int.emod_nonneg _ (by rw [los]; omega)
    have p1 : z / 3 % (((os.map V.ref).length : Nat) : Int) < (((os.map V.ref).length : Nat) : Int) := Int.emod_lt_of_pos _ (by rw [los]; omega)
    show tCut _ _ _ [_, _, _, _, _, _, _, _, some (V.int z), some (V.int (((((cs.map V.int).length : Nat) : Int) + (byy : Int)) % 3)), some (V.int (z / 3 % (((os.map V.ref).length : Nat) : Int))), o11] H3
    generalize ((((cs.map V.int).length : Nat) : Int) + (byy : Int)) % 3 = kd at k0 k1 ⊢
    generalize z / 3 % (((os.map V.ref).length : Nat) : Int) = sp0 at p0 p1 ⊢
    refine ⟨fun σ' H' => H' = H3 ∧ ∃ sp : Nat, sp < os.length ∧ σ' = [some (.ref a), some (.int most), some (.int byy), some (.ref Ce), some (.ref R), some (.ref O), some (.int (i : Nat)), some (.int cs[i]), some (.int z), some (.int kd), some (.int sp), o11], ?_, ?_⟩
    · refine ⟨_, rfl, _, _, rfl, rfl, _, rfl, ?_⟩
      refine ite2 (fun _ => ?_) (fun _ => ?_)
      · refine ⟨_, rfl, O, _, rfl, .inl (SqL.of hO1), _, _, rfl, rfl, _, rfl, _, _, rfl, rfl, wide_div (b := 2) (by decide) (by decide) (by decide) (by decide), _, rfl, O, _, rfl, .inl (SqL.of hO1), _, rfl, _, _, rfl, rfl, (by exact Bits.mulX (a := 2) (b := 2) (by show kd.natAbs < 4; omega) (by show (2 : Nat) < 4; decide) (by decide)), _, _, rfl, rfl, _, _, rfl, ?_⟩
        have mpos : 0 < (if 1 + kd * 2 < (((os.map V.ref).length : Nat) : Int) then 1 + kd * 2 else (((os.map V.ref).length : Nat) : Int)) := by
          split <;> omega
        have mle : (if 1 + kd * 2 < (((os.map V.ref).length : Nat) : Int) then 1 + kd * 2 else (((os.map V.ref).length : Nat) : Int)) ≤ (((os.map V.ref).length : Nat) : Int) := by
          split <;> omega
        refine ⟨_, _, rfl, rfl, mpos, _, _, rfl, rfl, rfl, ?_⟩
        have r0 := Int.emod_nonneg (z / 3) (Int.ne_of_gt mpos)
        have r1 := Int.emod_lt_of_pos (z / 3) mpos
        generalize z / 3 % (if 1 + kd * 2 < (((os.map V.ref).length : Nat) : Int) then 1 + kd * 2 else (((os.map V.ref).length : Nat) : Int)) = rr at r0 r1 ⊢
        refine ⟨((((os.map V.ref).length : Nat) : Int) - 1 - rr).toNat, by omega, ?_⟩
        show [_, _, _, _, _, _, _, _, _, _, some (V.int ((((os.map V.ref).length : Nat) : Int) - 1 - rr)), _] = _
        rw [Int.toNat_of_nonneg (by omega)]
      · refine ⟨rfl, sp0.toNat, by omega, ?_⟩
        rw [Int.toNat_of_nonneg p0]
    rintro σ' H' ⟨rfl, sp, hsp, rfl⟩
    -- the new branch
    refine ⟨(by show 0 ≤ sizeLine; decide), fun B nB => ?_⟩
    have sB := same_new nB (.lst [])
    have ms := List.getElem_mem hsp
    have mas := so _ ms
    have osAt : (os.map V.ref)[sp]? = some (V.ref os[sp]) := by rw [List.getElem?_map, List.getElem?_eq_getElem hsp]; rfl
    have hft : fit t := fit_of_knots (n := 100) (by decide) t (by omega)
    obtain ⟨ks, hks, ksl⟩ : ∃ ks, H' os[sp] = some (.lst ks) ∧ ks.length < sizeLine := ⟨_, (Own.kids t ow1 hft _ mas).1, lim_line (Own.kids t ow1 hft _ mas).2⟩
    have nBas : B ∉ as := fun h => by obtain ⟨o, e⟩ := Own.tracked t ow1 _ h; rw [nB] at e; cases e
    have nBO : B ≠ O := fun e => by rw [e, hO1] at nB; cases nB
    have nsO : os[sp] ≠ O := fun e => nOas (by rw [← e]; exact mas)
    have nsB : os[sp] ≠ B := fun e => nBas (by rw [← e]; exact mas)
    refine ⟨fun σ'' H'' => σ'' = [some (.ref a), some (.int most), some (.int byy), some (.ref Ce), some (.ref R), some (.ref O), some (.int (i : Nat)), some (.int cs[i]), some (.int z), some (.int kd), some (.int sp), some (.ref B)] ∧
        ∃ l r, ks = l ++ r ∧ H'' = upd (upd H' B (.lst [])) os[sp] (.lst (l ++ .ref B :: r)), ?_, ?_⟩
    · refine ⟨_, rfl, _, _, rfl, rfl, (by show (0 : Int) < 2; decide), rfl, _, rfl, ?_⟩
      refine ite2 (fun _ => ?_) (fun _ => ?_)
      · refine ⟨_, rfl, _, rfl, O, _, _, _, rfl, rfl, SqL.of (sB _ _ hO1), atI_nat osAt, .inl ⟨rfl, _, SqL.of (sB _ _ hks)⟩, _, rfl, _, _, _, rfl, rfl, sB _ _ hks, ksl, rfl, ks, [], (List.append_nil ks).symm, rfl⟩
      · refine ⟨_, rfl, _, rfl, O, _, _, _, rfl, rfl, SqL.of (sB _ _ hO1), atI_nat osAt, .inl ⟨rfl, _, SqL.of (sB _ _ hks)⟩, _, rfl, _, _, _, _, rfl, rfl, sB _ _ hks, ksl, Int.le_refl 0, by decide, rfl, [], ks, rfl, rfl⟩
    rintro σ'' H'' ⟨rfl, l, r, rfl, rfl⟩
    have sB2 : ∀ b, b ≠ os[sp] → ∀ o, H' b = some o → upd (upd H' B (.lst [])) os[sp] (.lst (l ++ .ref B :: r)) b = some o := fun b nb o e => by rw [upd_ne nb]; exact sB _ _ e
    obtain ⟨t', as', ow', pm, kt', dt'⟩ := Own.graft sB2 hks upd_same (by rw [upd_ne nsB.symm]; exact upd_same) t ow1 nd mas
    generalize upd (upd H' B (.lst [])) os[sp] (.lst (l ++ .ref B :: r)) = H4 at sB2 ow' ⊢
    have hO4 := sB2 O nsO.symm _ hO1
    have nOas' : O ∉ as' := fun h => by
      rcases List.mem_cons.mp (pm.mem_iff.mp h) with e | h
      · exact nBO e.symm
      · exact nOas h
    refine ⟨_, rfl, .inl ⟨rfl, _, SqL.of hO4⟩, _, rfl, O, _, _, rfl, rfl, hO4, ?_, ?_⟩
    · rw [los]; exact lim_line (by have : (100 : Nat) ≤ lim := by decide
                                   omega)
    refine ⟨_, _, _, _, _, _, t', as', os ++ [B], rfl, fun b o e => ?_, ?_, ?_, fun c hc => ?_, nOas', ?_, ?_, fun c hc => ?_, by omega, by omega⟩
    · have nb : b ≠ os[sp] := fun z => by rw [z, fr _ mas] at e; cases e
      rw [upd_ne (ne_of_none e nOc)]
      exact sB2 b nb _ (sT _ _ (sm _ _ e))
    · exact Own.frame t' ow' fun c hc u e => by rw [upd_ne (fun z => nOas' (by rw [← z]; exact hc))]; exact e
    · refine pm.nodup_iff.mpr (List.nodup_cons.mpr ⟨nBas, nd⟩)
    · rcases List.mem_cons.mp (pm.mem_iff.mp hc) with e | hc
      · rw [e]; exact (sm.trans sT).free nB
      · exact fr c hc
    · rw [upd_same, List.map_append]; rfl
    · rw [List.length_append, lo]; rfl
    · rcases List.mem_append.mp hc with hc | hc
      · exact pm.mem_iff.mpr (List.mem_cons_of_mem _ (so c hc))
      · rw [List.mem_singleton] at hc
        exact pm.mem_iff.mpr (by rw [hc]; exact List.mem_cons_self)
  · rintro σ H1 ⟨o6, o7, o8, o9, o10, o11, t, as, os, rfl, sm, ow, nd, fr, nOas, hO, lo, so, kt, dt⟩
    rw [List.length_map] at kt dt
    exact ⟨_, rfl, q _ _ t ⟨sc.trans sm, as, ow, nd, fun c hc => sc.free (fr c hc)⟩ (by omega) (by omega)⟩
end
section
variable {P : Program} {w : World} {K : PySem.W.Frag} {mg : Str → Option Value} {base : Heap}
/-- a new tree may be spoilt: what stood before it stays, and what was made behind it -/
theorem New.spoil {H1 H2 H3 : Hp} {v : V} {t : Tt} (n : New H1 H2 v t) (s : Same H2 H3) : ∃ as, Own H3 v t as ∧ as.Nodup ∧
    ∀ H4, (∀ b o, b ∉ as → H3 b = some o → H4 b = some o) → Same H1 H4 ∧ (∀ b o, H2 b = none → H3 b = some o → H4 b = some o) ∧ ∀ {H' : Hp} {u : V} {r : Tt}, New H2 H' u r → Same H' H3 → TreeAt H4 u r := by
  obtain ⟨s12, as, o, nd, fr⟩ := n
  refine ⟨as, Own.frame t o fun a _ u e => s _ _ e, nd, fun H4 k => ?_⟩
  have tr : ∀ b, H2 b = none → b ∉ as := fun b hb h => by obtain ⟨xs, e⟩ := Own.tracked t o b h; rw [hb] at e; cases e
  refine ⟨fun b u e => k b u (fun h => by rw [fr b h] at e; cases e) (s _ _ (s12 _ _ e)), fun b u hb e => k b u (tr b hb) e, fun {H' u r} m s' => ?_⟩
  obtain ⟨s2, bs, o2, _, fr2⟩ := m
  exact Own.at_ r (Own.frame r o2 fun a ha x e => k a x (tr a (fr2 a ha)) (s' _ _ e))
theorem depth41 {t : Tt} (h : okT t) : depth t < 41 := h.dp
theorem dep63 {t : Tt} (h : okT t) : depth t ≤ 63 := Nat.le_trans h.2 (by decide)
theorem knotsL_perm {l m : List Tt} (p : l.Perm m) : knotsL l = knotsL m := by
  induction p with
  | nil => rfl
  | cons x _ ih => rw [knotsL, knotsL, ih]
  | swap x y l => rw [knotsL, knotsL, knotsL, knotsL]; omega
  | trans _ _ ih1 ih2 => rw [ih1, ih2]
theorem knotsL_map {f : Tt → Tt} : ∀ {l : List Tt}, (∀ x, x ∈ l → knots (f x) = knots x) → knotsL (l.map f) = knotsL l
  | [], _ => rfl
  | x :: l, h => by rw [List.map_cons, knotsL, knotsL, h x List.mem_cons_self, knotsL_map fun y hy => h y (List.mem_cons_of_mem _ hy)]
theorem knots_told (t : Tt) : knots (told t) = knots t := by
  induction t using Tt.ind with
  | h l ih =>
    rw [told_mk, knots, knots, knotsL_perm (toldL_perm l []), List.nil_append, knotsL_map ih]
theorem okT_told {t : Tt} (h : okT t) : okT (told t) := ⟨by rw [knots_told]; exact h.1, Nat.le_trans (depth_told_le t) h.2⟩
theorem fit_ok {t : Tt} (h : okT t) : fit t := h.fit
theorem kn_lim {t : Tt} (h : okT t) : knots t ≤ lim - 1 := Nat.le_trans h.1 (by decide)
/-! ### _law_told_right -/
def spTrue1 : Sp := fun vs H Q _ => ∃ (v : V) (t : Tt), vs = [v] ∧ TreeAt H v t ∧ okT t ∧ ∀ H', Same H H' → Q (.bl true) H'
theorem ok__law_told_right (T : Txt K mg) : FnOk P w K mg base CX0 45 T.a__law_told_right T.d__law_told_right ["_law_tree_here"] spTrue1 := by
  have G__law_copied := ok__law_copied (P := P) (w := w) (base := base) T 41
  have G_told := ok_told (P := P) (w := w) (base := base) T
  have G__law_told := ok__law_told (P := P) (w := w) (base := base) T 41
  have G__law_is_tree := ok__law_is_tree (P := P) (w := w) (base := base) T 41
  have G__law_spoilt := ok__law_spoilt (P := P) (w := w) (base := base) T 41
  refine T.F__law_told_right.ok sc__law_told_right (fun vs H Q E h => ?_) (fun cdv A outer s H vs Q E hr h => ?_)
  · obtain ⟨v, t, rfl, _⟩ := h; rfl
  obtain ⟨v, t, rfl, ht, ho, q⟩ := h
  have R__law_copied : Room 41 _ := hr.mono (by omega)
  have R_told : Room 44 _ := hr
  have R__law_told : Room 42 _ := hr.mono (by omega)
  have R__law_is_tree : Room 41 _ := hr.mono (by omega)
  have R__law_spoilt : Room 42 _ := hr.mono (by omega)
  have hu64 := hr.units
  refine ⟨_, (pss_cons (ps_set (i := 1) sc__law_told_right.nd rfl (Or.inl rfl) (pe_call G__law_copied R__law_copied rfl T.m__law_copied T.k__law_copied T.b__law_copied .nil pass0 (pa_cons (pv 0) pa_nil)))
      (pss_cons (ps_set (i := 2) sc__law_told_right.nd rfl (Or.inl rfl) (pe_call G_told R_told rfl T.m_told T.k_told T.b_told .nil passL (pa_cons (pv 1) pa_nil)))
      (pss_cons (ps_set (i := 3) sc__law_told_right.nd rfl (Or.inl rfl) (pe_call G__law_told R__law_told rfl T.m__law_told T.k__law_told T.b__law_told .nil pass0 (pa_cons (pv 0) pa_nil)))
      (pss_cons (ps_if (PW.pt (pw_or (pt_not (pt_val (pe_call G__law_is_tree R__law_is_tree rfl T.m__law_is_tree T.k__law_is_tree T.b__law_is_tree .nil pass0 (pa_cons (pv 2) pa_nil)))) (pw_or (pt_cmpR (r := rNeD K) (op_neD hu64) (pv 2) (pv 3) (nomark _)) (pw_or (pt_cmpR (r := rNeD K) (op_neD hu64) (pv 1) (pv 0) (nomark _)) (pw_or1 (pt_not (pt_val (pe_call G__law_spoilt R__law_spoilt rfl T.m__law_spoilt T.k__law_spoilt T.b__law_spoilt .nil pass0 (pa_cons (pv 2) pa_nil))))))))) (pss_one (ps_ret pe_bl)) pss_nil)
      (pss_one (ps_ret (pe_and (pe_cmpR (r := rEqD K) (op_eqD hu64) (pe_call G_told R_told rfl T.m_told T.k_told T.b_told .nil passL (pa_cons (pv 1) pa_nil)) (pv 3) (nomark _)) (pe_one (pe_cmpR (r := rEqD K) (op_eqD hu64) (pv 1) (pv 0) (nomark _)))))))))), ?_⟩
  refine ⟨_, rfl, v, t, rfl, ht, ho.fit, ho.dp, fun H1 hv n1 => ?_⟩
  refine ⟨_, rfl, hv, rfl, .inl ⟨t, n1.at_, ho, fun H2 fv n2 => ?_⟩⟩
  refine ⟨_, rfl, v, t, rfl, TreeAt.same (n1.1.trans n2.1) t ht, ho.fit, ho.dp, fun H3 dv n3 => ?_⟩
  have o2 := okT_told ho
  have t2 := TreeAt.same n3.1 _ n2.at_
  refine ⟨_, rfl, fv, _, rfl, t2, o2.fit, o2.dp, fun H4 s4 => ⟨_, rfl, iteF ?_⟩⟩
  refine ⟨_, rfl, _, rfl, ne_trees (TreeAt.same s4 _ t2) (TreeAt.same s4 _ n3.at_) (dep63 o2) (dep63 o2) ⟨_, rfl, iteNS rfl ?_⟩⟩
  refine ⟨_, rfl, _, rfl, ne_trees (TreeAt.same (n2.1.trans (n3.1.trans s4)) _ n1.at_) (TreeAt.same (n1.1.trans (n2.1.trans (n3.1.trans s4))) _ ht) (dep63 ho) (dep63 ho) ⟨_, rfl, iteNS rfl ?_⟩⟩
  obtain ⟨as, ow, nd, sp⟩ := n2.spoil (n3.1.trans s4)
  refine ⟨_, rfl, fv, _, as, rfl, ow, nd, o2.fit, kn_lim o2, o2.dp, fun H5 k5 => ⟨_, rfl, iteF ?_⟩⟩
  obtain ⟨s15, _, back⟩ := sp H5 k5
  have th5 := TreeAt.same s15 _ n1.at_
  have td5 := back n3 s4
  refine ⟨_, rfl, hv, rfl, .inl ⟨t, th5, ho, fun H6 rv n6 => ?_⟩⟩
  refine ⟨_, rfl, eq_trees n6.at_ (TreeAt.same n6.1 _ td5) (dep63 o2) (dep63 o2) ⟨_, rfl, ?_⟩⟩
  rw [decide_eq_true rfl]
  refine iteT ⟨_, rfl, _, rfl, eq_trees (TreeAt.same n6.1 _ th5) (TreeAt.same (n1.1.trans (s15.trans n6.1)) _ ht) (dep63 ho) (dep63 ho) ?_⟩
  rw [decide_eq_true rfl]
  exact q _ (n1.1.trans (s15.trans n6.1))
end
section
variable {P : Program} {w : World} {K : PySem.W.Frag} {mg : Str → Option Value} {base : Heap}
/-! ### _law_pair_right -/
theorem sgn_anti (a b : Tt) : sgn (cmp b a) = -sgn (cmp a b) := by
  rw [cmp_anti b a]
  unfold sgn
  by_cases h1 : 0 < cmp a b
  · rw [if_neg (by omega), if_neg (by omega), if_pos h1]
  · by_cases h2 : cmp a b = 0
    · rw [if_neg (by omega), if_pos (by omega), if_neg h1, if_pos h2]; rfl
    · rw [if_pos (by omega), if_neg h1, if_neg h2]; rfl
theorem sgn_zero (a b : Tt) : sgn (cmp a b) = 0 ↔ a = b := by
  rw [← cmp_zero]
  unfold sgn
  by_cases h1 : 0 < cmp a b
  · rw [if_pos h1]; omega
  · by_cases h2 : cmp a b = 0
    · rw [if_neg h1, if_pos h2]; omega
    · rw [if_neg h1, if_neg h2]; omega
theorem Some_.at_ {H : Hp} {p : Tt → Bool} {vs ws : List V} {ts us : List Tt} (r : Some_ p vs ts ws us) : TreesAt H vs ts → TreesAt H ws us := by
  induction r with
  | nil => exact fun h => h
  | yes h r ih =>
    intro k
    rw [treesAt_cons] at k ⊢
    obtain ⟨v, vs', e, k1, k2⟩ := k
    injection e with e1 e2
    subst e1 e2
    exact ⟨_, _, rfl, k1, ih k2⟩
  | no h r ih =>
    intro k
    rw [treesAt_cons] at k
    obtain ⟨v, vs', e, k1, k2⟩ := k
    injection e with e1 e2
    subst e1 e2
    exact ih k2
theorem tree_two {H : Hp} {p : Addr} {v u : V} {t s : Tt} (h : H p = some (.lst [v, u])) (h1 : TreeAt H v t) (h2 : TreeAt H u s) : TreeAt H (.ref p) (.mk [t, s]) := by
  rw [treeAt_mk]
  refine ⟨p, _, rfl, h, ?_⟩
  rw [treesAt_cons]
  exact ⟨v, [u], rfl, h1, TreesAt.one h2⟩
theorem ok_two {t s : Tt} (h1 : okT t) (h2 : okT s) : depth (.mk [t, s]) ≤ 63 := by
  rw [depth, depthL, depthL, depthL]
  have := h1.2; have := h2.2
  omega
theorem knotsL_keep (l m : List Tt) : knotsL (keepB l m) ≤ knotsL l := by
  unfold keepB
  induction l with
  | nil => exact Nat.le_refl _
  | cons x l ih =>
    by_cases h : keepq m x = true
    · rw [List.filter_cons_of_pos h, knotsL, knotsL]; omega
    · rw [List.filter_cons_of_neg h, knotsL]; omega
theorem knotsL_told (l : List Tt) : knotsL (toldL [] l) = knotsL l := by
  have h := knots_told (.mk l)
  rw [told_mk, knots, knots] at h
  omega
theorem okT_merge {l m : List Tt} (h1 : okT (.mk l)) (h2 : okT (.mk m)) (hk : knots (.mk l) + knots (.mk m) ≤ 301) : okT (.mk (merge (toldL [] l) (toldL [] m))) := by
  refine ⟨?_, depth_mk_of fun x hx => (merge_mem hx).elim (toldB_depth h1.2 x) (toldB_depth h2.2 x)⟩
  rw [knots, knotsL_perm (merge_perm _ _), knotsL_append, knotsL_told, knotsL_told]
  rw [knots, knots] at hk
  omega
theorem okT_behind {l m : List Tt} (h1 : okT (.mk l)) (h2 : okT (.mk m)) (hk : knots (.mk l) + knots (.mk m) ≤ 301) : okT (.mk (behindL (toldL [] l) (toldL [] m))) := by
  refine ⟨?_, depth_mk_of fun x hx => (List.mem_append.mp hx).elim (fun hx => toldB_depth h1.2 x (keepB_mem hx)) (toldB_depth h2.2 x)⟩
  have h3 := knotsL_keep (toldL [] l) (toldL [] m)
  rw [knotsL_told] at h3
  unfold behindL
  rw [knots, knotsL_append, knotsL_told]
  rw [knots, knots] at hk
  omega
def spTrue2 : Sp := fun vs H Q _ => ∃ (v u : V) (t s : Tt), vs = [v, u] ∧ TreeAt H v t ∧ okT t ∧ TreeAt H u s ∧ okT s ∧ knots t + knots s ≤ 301 ∧ ∀ H', Same H H' → Q (.bl true) H'
theorem ok__law_pair_right (T : Txt K mg) : FnOk P w K mg base CX0 45 T.a__law_pair_right T.d__law_pair_right ["_law_one", "_law_other"] spTrue2 := by
  have G__law_copied := ok__law_copied (P := P) (w := w) (base := base) T 41
  have G_compare := ok_compare (P := P) (w := w) (base := base) T
  have G_together := ok_together (P := P) (w := w) (base := base) T
  have G_behind := ok_behind (P := P) (w := w) (base := base) T
  have G__law_told := ok__law_told (P := P) (w := w) (base := base) T 41
  have G__law_more := ok__law_more (P := P) (w := w) (base := base) T 41
  have G__law_is_tree := ok__law_is_tree (P := P) (w := w) (base := base) T 41
  have G__law_spoilt := ok__law_spoilt (P := P) (w := w) (base := base) T 41
  refine T.F__law_pair_right.ok sc__law_pair_right (fun vs H Q E h => ?_) (fun cdv A outer s H vs Q E hr h => ?_)
  · obtain ⟨v, u, t, s, rfl, _⟩ := h; rfl
  obtain ⟨v, u, ⟨l⟩, ⟨m⟩, rfl, ht, ho, hs, hos, hk, q⟩ := h
  have R__law_copied : Room 41 _ := hr.mono (by omega)
  have R_compare : Room 44 _ := hr
  have R_together : Room 44 _ := hr
  have R_behind : Room 44 _ := hr
  have R__law_told : Room 42 _ := hr.mono (by omega)
  have R__law_more : Room 41 _ := hr.mono (by omega)
  have R__law_is_tree : Room 41 _ := hr.mono (by omega)
  have R__law_spoilt : Room 42 _ := hr.mono (by omega)
  have hu64 := hr.units
  refine ⟨_, (pss_cons (ps_set (i := 2) sc__law_pair_right.nd rfl (Or.inl rfl) (pe_lst (pa_cons (pe_call G__law_copied R__law_copied rfl T.m__law_copied T.k__law_copied T.b__law_copied .nil pass0 (pa_cons (pv 0) pa_nil)) (pa_cons (pe_call G__law_copied R__law_copied rfl T.m__law_copied T.k__law_copied T.b__law_copied .nil pass0 (pa_cons (pv 1) pa_nil)) pa_nil))))
      (pss_cons (ps_asg (pe_tup (pa_cons (pe_call G__law_told R__law_told rfl T.m__law_told T.k__law_told T.b__law_told .nil pass0 (pa_cons (pv 0) pa_nil)) (pa_cons (pe_call G__law_told R__law_told rfl T.m__law_told T.k__law_told T.b__law_told .nil pass0 (pa_cons (pv 1) pa_nil)) pa_nil))) (pg_tup rfl (pgs_cons (pg_name (i := 3) sc__law_pair_right.nd rfl (Or.inl rfl)) (pgs_cons (pg_name (i := 4) sc__law_pair_right.nd rfl (Or.inr rfl)) pgs_nil))))
      (pss_cons (ps_set (i := 5) sc__law_pair_right.nd rfl (Or.inl rfl) (pe_call G__law_more R__law_more rfl T.m__law_more T.k__law_more T.b__law_more .nil pass0 (pa_cons (pv 3) (pa_cons (pv 4) pa_nil))))
      (pss_cons (ps_set (i := 6) sc__law_pair_right.nd rfl (Or.inl rfl) (pe_ifExp (pt_cmpR op_gt (pv 5) pe_int (nomark _)) pe_int (pe_ifExp (pt_cmpR op_eq (pv 5) pe_int (nomark _)) pe_int (pe_un un_neg pe_int))))
      (pss_cons (ps_set (i := 7) sc__law_pair_right.nd rfl (Or.inl rfl) (pe_call G_compare R_compare rfl T.m_compare T.k_compare T.b_compare .nil passL (pa_cons (pe_ix (r := rIxL K) ix_list (pv 2) pe_int (fun _ _ => rfl)) (pa_cons (pe_ix (r := rIxL K) ix_list (pv 2) pe_int (fun _ _ => rfl)) pa_nil))))
      (pss_cons (ps_if (PW.pt (pw_or (pt_val (pe_callB (r := rIsi K) call_isi (by rfl) T.z_isinstance (by decide +kernel) (pa_cons (pv 7) (pa_cons (pe_bltn (v := .ty "bool") (u := .type "bool") (by rfl) T.z_bool (by decide +kernel) rfl) pa_nil)))) (pw_or (pt_cmpR op_ne (pv 7) (pv 6) (nomark _)) (pw_or1 (pt_cmpR op_ne (pe_call G_compare R_compare rfl T.m_compare T.k_compare T.b_compare .nil passL (pa_cons (pe_ix (r := rIxL K) ix_list (pv 2) pe_int (fun _ _ => rfl)) (pa_cons (pe_ix (r := rIxL K) ix_list (pv 2) pe_int (fun _ _ => rfl)) pa_nil))) (pe_un un_neg (pv 6)) (nomark _)))))) (pss_one (ps_ret pe_bl)) pss_nil)
      (pss_cons (ps_if (pt_cmpR op_ne (pe_cmpR op_eq (pv 6) pe_int (nomark _)) (pe_cmpR (r := rEqD K) (op_eqD hu64) (pv 3) (pv 4) (nomark _)) (nomark _)) (pss_one (ps_ret pe_bl)) pss_nil)
      (pss_cons (ps_set (i := 8) sc__law_pair_right.nd rfl (Or.inl rfl) (pe_call G_together R_together rfl T.m_together T.k_together T.b_together .nil passL (pa_cons (pe_ix (r := rIxL K) ix_list (pv 2) pe_int (fun _ _ => rfl)) (pa_cons (pe_ix (r := rIxL K) ix_list (pv 2) pe_int (fun _ _ => rfl)) pa_nil))))
      (pss_cons (ps_set (i := 9) sc__law_pair_right.nd rfl (Or.inl rfl) (pe_call G__law_told R__law_told rfl T.m__law_told T.k__law_told T.b__law_told .nil pass0 (pa_cons (pe_op op_cat (pv 0) (pv 1)) pa_nil)))
      (pss_cons (ps_if (PW.pt (pw_or (pt_not (pt_val (pe_call G__law_is_tree R__law_is_tree rfl T.m__law_is_tree T.k__law_is_tree T.b__law_is_tree .nil pass0 (pa_cons (pv 8) pa_nil)))) (pw_or (pt_cmpR (r := rNeD K) (op_neD hu64) (pv 8) (pv 9) (nomark _)) (pw_or1 (pt_not (pt_val (pe_call G__law_spoilt R__law_spoilt rfl T.m__law_spoilt T.k__law_spoilt T.b__law_spoilt .nil pass0 (pa_cons (pv 8) pa_nil)))))))) (pss_one (ps_ret pe_bl)) pss_nil)
      (pss_cons (ps_set (i := 10) sc__law_pair_right.nd rfl (Or.inl rfl) (pe_call G_behind R_behind rfl T.m_behind T.k_behind T.b_behind .nil passL (pa_cons (pe_ix (r := rIxL K) ix_list (pv 2) pe_int (fun _ _ => rfl)) (pa_cons (pe_ix (r := rIxL K) ix_list (pv 2) pe_int (fun _ _ => rfl)) pa_nil))))
      (pss_cons (ps_setLc (i := 11) (own := [("_law_branch", 13)]) (g := gName 13)  rfl sc__law_pair_right.nd rfl rfl (sw_true rfl rfl rfl (by decide +kernel)) (pi_list (pv 3)) (blkOk_by (own := [("_law_branch", 13)]) (N := ["_law_one", "_law_other", "_law_handed", "_law_first", "_law_second", "_law_more_here", "_law_due", "_law_found", "_law_both", "_law_whole", "_law_on", "_law_kept", "_law_again", "_law_branch"]) (sc := defScope s__law_pair_right) (by decide +kernel)) (fun _ _ _ _ _ => (pg_name (i := 13) sc__law_pair_right.nd rfl (Or.inl rfl))) (fun _ _ _ _ _ => (pts_one (PW.pt (pw_or (pt_cmpR (r := rEqD K) (op_eqD hu64) (pv 4) (pe_lst pa_nil) (nomark _)) (pw_or1 (pt_cmpR op_ge (pe_call G__law_more R__law_more rfl T.m__law_more T.k__law_more T.b__law_more .nil pass0 (pa_cons (pv 13) (pa_cons (pe_ix (r := rIxL K) ix_list (pv 4) pe_int (fun _ _ => rfl)) pa_nil))) pe_int (nomark _))))))) (fun _ _ _ _ _ => (pv 13)))
      (pss_cons (ps_if (PW.pt (pw_or (pt_not (pt_val (pe_call G__law_is_tree R__law_is_tree rfl T.m__law_is_tree T.k__law_is_tree T.b__law_is_tree .nil pass0 (pa_cons (pv 10) pa_nil)))) (pw_or (pt_cmpR (r := rNeD K) (op_neD hu64) (pv 10) (pe_op op_cat (pv 11) (pv 4)) (nomark _)) (pw_or (pt_not (pt_val (pe_call G__law_spoilt R__law_spoilt rfl T.m__law_spoilt T.k__law_spoilt T.b__law_spoilt .nil pass0 (pa_cons (pv 10) pa_nil)))) (pw_or1 (pt_cmpR (r := rNeD K) (op_neD hu64) (pv 2) (pe_lst (pa_cons (pv 0) (pa_cons (pv 1) pa_nil))) (nomark _))))))) (pss_one (ps_ret pe_bl)) pss_nil)
      (pss_cons (ps_set (i := 12) sc__law_pair_right.nd rfl (Or.inl rfl) (pe_lst (pa_cons (pe_call G_together R_together rfl T.m_together T.k_together T.b_together .nil passL (pa_cons (pe_ix (r := rIxL K) ix_list (pv 2) pe_int (fun _ _ => rfl)) (pa_cons (pe_ix (r := rIxL K) ix_list (pv 2) pe_int (fun _ _ => rfl)) pa_nil))) (pa_cons (pe_call G_behind R_behind rfl T.m_behind T.k_behind T.b_behind .nil passL (pa_cons (pe_ix (r := rIxL K) ix_list (pv 2) pe_int (fun _ _ => rfl)) (pa_cons (pe_ix (r := rIxL K) ix_list (pv 2) pe_int (fun _ _ => rfl)) pa_nil))) pa_nil))))
      (pss_one (ps_ret (pe_and (pe_cmpR (r := rEqD K) (op_eqD hu64) (pv 12) (pe_lst (pa_cons (pv 9) (pa_cons (pe_op op_cat (pv 11) (pv 4)) pa_nil))) (nomark _)) (pe_one (pe_cmpR (r := rEqD K) (op_eqD hu64) (pv 2) (pe_lst (pa_cons (pv 0) (pa_cons (pv 1) pa_nil))) (nomark _)))))))))))))))))))), ?_⟩
  have o1 := okT_told ho
  have o2 := okT_told hos
  have e1 : told (.mk l) = .mk (toldL [] l) := told_mk l
  have e2 : told (.mk m) = .mk (toldL [] m) := told_mk m
  -- handed
  refine ⟨_, rfl, v, _, rfl, ht, ho.fit, ho.dp, fun H1 hv n1 => ?_⟩
  refine ⟨_, rfl, u, _, rfl, TreeAt.same n1.1 _ hs, hos.fit, hos.dp, fun H2 hw n2 => ?_⟩
  refine ⟨(by show 2 ≤ sizeLine; decide), fun L nL => ?_⟩
  have s3 := same_new nL (.lst [hv, hw])
  have s03 := n1.1.trans (n2.1.trans s3)
  -- first, second
  refine ⟨_, rfl, v, _, rfl, TreeAt.same s03 _ ht, ho.fit, ho.dp, fun H4 fv n4 => ?_⟩
  refine ⟨_, rfl, u, _, rfl, TreeAt.same (s03.trans n4.1) _ hs, hos.fit, hos.dp, fun H5 sv n5 => ?_⟩
  refine ⟨(by show 2 ≤ sizeLine; decide), fun Tp nT => ?_⟩
  have s6 := same_new nT (.tup [fv, sv])
  refine ⟨Tp, _, rfl, SqT.of upd_same, rfl, _, _, rfl, _, _, rfl, rfl, ?_⟩
  generalize hH6 : upd H5 Tp (.tup [fv, sv]) = H6 at s6 ⊢
  have tf : TreeAt H6 fv (told (.mk l)) := TreeAt.same (n5.1.trans s6) _ n4.at_
  have ts : TreeAt H6 sv (told (.mk m)) := TreeAt.same s6 _ n5.at_
  have s36 := n4.1.trans (n5.1.trans s6)
  have s06 := s03.trans s36
  -- more
  refine ⟨_, rfl, _, rfl, fv, sv, _, _, rfl, tf, ts, o1.fit, o1.dp, fun H7 s7 => ?_⟩
  -- due
  suffices hdue : tSeq _ _ _ [some v, some u, some (.ref L), some fv, some sv, some (.int (cmp (told (.mk l)) (told (.mk m)))), some (.int (sgn (cmp (told (.mk l)) (told (.mk m))))), none, none, none, none, none, none, none] H7 by
    refine ⟨_, rfl, _, _, rfl, rfl, _, rfl, ?_⟩
    unfold sgn at hdue
    refine ite2 (fun c => ?_) (fun c => ?_)
    · rw [if_pos (of_decide_eq_true c : 0 < cmp (told (.mk l)) (told (.mk m)))] at hdue
      exact hdue
    · have c' : ¬ 0 < cmp (told (.mk l)) (told (.mk m)) := of_decide_eq_false (Bool.eq_false_iff.mpr c)
      rw [if_neg c'] at hdue
      refine ⟨_, rfl, rfl, _, rfl, ?_⟩
      refine ite2 (fun c => ?_) (fun c => ?_)
      · have c2 : V.int (cmp (told (.mk l)) (told (.mk m))) = V.int 0 := of_decide_eq_true c
        injection c2 with c2
        rw [if_pos c2] at hdue
        exact hdue
      · have c2 : ¬ V.int (cmp (told (.mk l)) (told (.mk m))) = V.int 0 := of_decide_eq_false (Bool.eq_false_iff.mpr c)
        rw [if_neg (fun e => c2 (by rw [e]))] at hdue
        exact ⟨_, rfl, hdue⟩
  -- found
  have hL7 : H7 L = some (.lst [hv, hw]) := s7 _ _ (s36 _ _ upd_same)
  have s07 := s06.trans s7
  have hv7 : TreeAt H7 hv (.mk l) := TreeAt.same (n2.1.trans (s3.trans (s36.trans s7))) _ n1.at_
  have hw7 : TreeAt H7 hw (.mk m) := TreeAt.same (s3.trans (s36.trans s7)) _ n2.at_
  have tf7 := TreeAt.same s7 _ tf
  have ts7 := TreeAt.same s7 _ ts
  have at0 : atI [hv, hw] 0 = some hv := atI_zero
  have at1 : atI [hv, hw] 1 = some hw := by
    have h : atI [hv, hw] ((1 : Nat) : Int) = some hw := atI_nat rfl
    exact h
  refine ⟨_, rfl, L, _, 0, _, rfl, rfl, SqL.of hL7, at0, _, rfl, L, _, 1, _, rfl, rfl, SqL.of hL7, at1, hv, hw, rfl, .inl ⟨_, _, hv7, ho, hw7, hos, fun H8 s8 => ?_⟩⟩
  refine ⟨_, rfl, _, _, _, _, false, rfl, ClsV.ty _, .base (.int _), kit_ty (by decide +kernel), _, rfl, iteF ?_⟩
  refine ⟨_, rfl, _, rfl, rfl, _, rfl, iteNS rfl ?_⟩
  have hL8 := s8 _ _ hL7
  refine ⟨_, rfl, L, _, 1, _, rfl, rfl, SqL.of hL8, at1, _, rfl, L, _, 0, _, rfl, rfl, SqL.of hL8, at0, hw, hv, rfl, .inl ⟨_, _, TreeAt.same s8 _ hw7, hos, TreeAt.same s8 _ hv7, ho, fun H9 s9 => ?_⟩⟩
  refine ⟨_, rfl, _, rfl, rfl, _, rfl, iteNS (by rw [sgn_anti]) ?_⟩
  have s79 := s8.trans s9
  -- (due == 0) != (first == second)
  refine ⟨_, rfl, rfl, _, rfl, _, rfl, eq_trees (TreeAt.same s79 _ tf7) (TreeAt.same s79 _ ts7) (dep63 o1) (dep63 o2) ⟨rfl, _, rfl, ?_⟩⟩
  refine iteNS ?_ ?_
  · refine congrArg V.bl ?_
    refine decide_eq_decide.mpr ⟨fun h => ?_, fun h => ?_⟩
    · injection h with h
      exact (sgn_zero _ _).mp h
    · exact congrArg V.int ((sgn_zero _ _).mpr h)
  -- both
  have hL9 := s79 _ _ hL7
  have hv9 := TreeAt.same s79 _ hv7
  have hw9 := TreeAt.same s79 _ hw7
  have om := okT_merge ho hos hk
  have ob := okT_behind ho hos hk
  refine ⟨_, rfl, L, _, 0, _, rfl, rfl, SqL.of hL9, at0, _, rfl, L, _, 1, _, rfl, rfl, SqL.of hL9, at1, hv, hw, rfl, .inl ⟨_, _, hv9, ho, hw9, hos, fun _ H10 bv n10 => ?_, fun hbad => absurd hbad (Nat.not_lt.mpr om.1)⟩⟩
  have s010 := s07.trans (s79.trans n10.1)
  -- whole
  have ht10 := TreeAt.same s010 _ ht
  have hs10 := TreeAt.same s010 _ hs
  rw [treeAt_mk] at ht10 hs10
  obtain ⟨a, xs, ev, ha, hbs⟩ := ht10
  obtain ⟨b, ys, eu, hb, hcs⟩ := hs10
  subst ev eu
  have lxs : xs.length ≤ 300 := by
    have h1 := ho.1
    rw [knots] at h1
    have := knotsL_len l; have := hbs.len
    omega
  have lys : ys.length ≤ 300 := by
    have h1 := hos.1
    rw [knots] at h1
    have := knotsL_len m; have := hcs.len
    omega
  refine ⟨_, rfl, _, rfl, a, b, xs, ys, rfl, rfl, ha, hb, Nat.le_trans (Nat.add_le_add lxs lys) (by decide), fun p np => ?_⟩
  have sp := same_new np (.lst (xs ++ ys))
  have tp : TreeAt (upd H10 p (.lst (xs ++ ys))) (.ref p) (.mk (l ++ m)) := by
    rw [treeAt_mk]
    exact ⟨p, _, rfl, upd_same, TreesAt.append (TreesAt.same sp _ hbs) (TreesAt.same sp _ hcs)⟩
  have olm : okT (.mk (l ++ m)) := by
    refine ⟨?_, ?_⟩
    · rw [knots, knotsL_append]
      rw [knots, knots] at hk
      omega
    · have h1 := ho.2; have h2 := hos.2
      rw [depth] at h1 h2 ⊢
      rw [depthL_append]
      omega
  refine ⟨.ref p, _, rfl, tp, olm.fit, olm.dp, fun H11 wv n11 => ?_⟩
  have ew : told (.mk (l ++ m)) = .mk (merge (toldL [] l) (toldL [] m)) := by rw [told_mk, merge_told]
  rw [ew] at n11
  -- the three looks at both
  have tb11 := TreeAt.same (sp.trans n11.1) _ n10.at_
  refine ⟨_, rfl, bv, _, rfl, tb11, om.fit, om.dp, fun H12 s12 => ⟨_, rfl, iteF ?_⟩⟩
  refine ⟨_, rfl, _, rfl, ne_trees (TreeAt.same s12 _ tb11) (TreeAt.same s12 _ n11.at_) (dep63 om) (dep63 om) ⟨_, rfl, iteNS rfl ?_⟩⟩
  obtain ⟨as, ow, nd, spl⟩ := n10.spoil (sp.trans (n11.1.trans s12))
  refine ⟨_, rfl, bv, _, as, rfl, ow, nd, om.fit, kn_lim om, om.dp, fun H13 k13 => ⟨_, rfl, iteF ?_⟩⟩
  obtain ⟨s913, _, back⟩ := spl H13 k13
  have n11' := n11.of sp
  have tw13 := back n11' s12
  have s013 := s07.trans (s79.trans s913)
  have hL13 := s913 _ _ hL9
  have hv13 := TreeAt.same s913 _ hv9
  have hw13 := TreeAt.same s913 _ hw9
  have tf13 := TreeAt.same (s79.trans s913) _ tf7
  have ts13 := TreeAt.same (s79.trans s913) _ ts7
  -- on
  refine ⟨_, rfl, L, _, 0, _, rfl, rfl, SqL.of hL13, at0, _, rfl, L, _, 1, _, rfl, rfl, SqL.of hL13, at1, hv, hw, rfl, .inl ⟨_, _, hv13, ho, hw13, hos, fun _ H14 nv n14 => ?_, fun hbad => absurd hbad (Nat.not_lt.mpr ob.1)⟩⟩
  replace n14 : New H13 H14 nv (.mk (behindL (toldL [] l) (toldL [] m))) := n14
  -- kept
  have df := toldB_depth ho.2
  have ff := toldB_fit ho.fit
  have lenf := okT_len ho
  have lens := okT_len hos
  rw [e1] at tf13 o1
  rw [e2] at ts13 o2
  generalize hl1 : toldL [] l = l1 at *
  generalize hm1 : toldL [] m = m1 at *
  have om1 : knots (.mk (merge (toldL [] l) (toldL [] m))) ≤ 300 := by rw [hl1, hm1]; exact om.1
  have ob1 : knots (.mk (behindL (toldL [] l) (toldL [] m))) ≤ 300 := by rw [hl1, hm1]; exact ob.1
  rw [treeAt_mk] at tf13 ts13
  obtain ⟨c, zs, efv, hc13, hzs13⟩ := tf13
  obtain ⟨d, ws, esv, hd13, hws13⟩ := ts13
  subst efv esv
  have hc := n14.1 _ _ hc13
  have hd := n14.1 _ _ hd13
  have hzs := TreesAt.same n14.1 _ hzs13
  have hws := TreesAt.same n14.1 _ hws13
  have ezs := hzs.len
  have ews := hws.len
  refine ⟨_, rfl, c, rfl, ⟨_, SqL.of hc⟩, fun D nD => ?_⟩
  refine lc_it (walk_list (xs := zs)) (fun i H' => Same H14 H' ∧ ∃ acc us, H' D = some (.lst acc) ∧ Some_ (keepq m1) (zs.take i) (l1.take i) acc us) ⟨same_new nD _, [], [], upd_same, .nil⟩ (fun i H' _ g => SqL.of (g.1 _ _ hc)) ?_ ?_
  · rintro i x H15 H16 hi ⟨s5, acc, us, hD, sm⟩ ⟨rfl, hx⟩
    obtain ⟨t, htl, hxt⟩ := hzs.get hx
    have sn := sm.snoc (v := x) (t := t)
    rw [← take_more hx, ← take_more htl] at sn
    have zl : acc.length < sizeLine := lim_line (by
      have h1 := sm.len
      rw [List.length_take] at h1
      have h3 : (300 : Nat) ≤ lim := by decide
      omega)
    refine ⟨rfl, ?_⟩
    refine cut_t (fun b H' => Same H16 H' ∧ b = keepq m1 t) (fun Q' hQ' => ?_) ?_
    · refine ⟨_, rfl, (by show 0 ≤ sizeLine; decide), fun p2 np2 => ?_⟩
      have sp2 := same_new np2 (.lst [])
      have hm1 : TreeAt (upd H16 p2 (.lst [])) (.ref d) (.mk m1) := by rw [treeAt_mk]; exact ⟨d, ws, rfl, sp2 _ _ (s5 _ _ hd), TreesAt.same sp2 _ (TreesAt.same s5 _ hws)⟩
      refine eq_trees hm1 (nil_tree upd_same) (dep63 o2) (by rw [depth, depthL]; decide) ⟨_, rfl, ?_⟩
      refine ite2 (fun c => ?_) (fun c => ?_)
      · have c' : Tt.mk m1 = Tt.mk [] := of_decide_eq_true c
        injection c' with c'
        exact hQ' _ _ ⟨sp2, by rw [c']; rfl⟩
      · have c' : ¬ Tt.mk m1 = Tt.mk [] := of_decide_eq_false (Bool.eq_false_iff.mpr c)
        cases m1 with
        | nil => exact absurd rfl c'
        | cons y m' =>
          rw [treesAt_cons] at hws
          obtain ⟨yv, ys', rfl, hy1, _⟩ := hws
          have mt := List.mem_of_getElem? htl
          refine ⟨_, rfl, _, rfl, d, _, 0, yv, rfl, rfl, SqL.of (sp2 _ _ (s5 _ _ hd)), atI_zero, x, yv, t, y, rfl, TreeAt.same (s5.trans sp2) _ hxt, TreeAt.same (s5.trans sp2) _ hy1, ff _ mt, Nat.lt_succ_of_lt (df t mt), fun H17 s17 => ?_⟩
          exact ⟨_, _, rfl, rfl, _, rfl, hQ' _ _ ⟨sp2.trans s17, rfl⟩⟩
    rintro b1 H17 ⟨s17, rfl⟩
    refine ite2 (fun c => ?_) (fun c => ?_)
    · rw [if_pos c, if_pos c] at sn
      refine ⟨_, rfl, acc, s17 _ _ hD, zl, fun z o e => ?_, _, _, upd_same, sn⟩
      rw [upd_ne (ne_of_none e nD)]; exact s17 _ _ (s5 _ _ e)
    · rw [if_neg c, if_neg c] at sn
      exact ⟨s5.trans s17, acc, us, s17 _ _ hD, sn⟩
  rintro H15 ⟨s15, acc, us, hD, sm⟩
  rw [ezs, List.take_length, ← ezs, List.take_length] at sm
  have eus : us = keepB l1 m1 := sm.us
  subst eus
  have tacc := sm.at_ hzs
  have lacc : acc.length ≤ 300 := by have := sm.len; omega
  have lws : ws.length ≤ 300 := by omega
  have lcat : acc.length + ws.length ≤ sizeLine := Nat.le_trans (Nat.add_le_add lacc lws) (by decide)
  -- the looks at on
  refine ⟨_, rfl, nv, _, rfl, TreeAt.same s15 _ n14.at_, ob.fit, ob.dp, fun H16 s16 => ⟨_, rfl, iteF ?_⟩⟩
  have hD16 := s16 _ _ hD
  have hd16 := s16 _ _ (s15 _ _ hd)
  refine ⟨_, rfl, _, rfl, _, rfl, D, d, acc, ws, rfl, rfl, hD16, hd16, lcat, fun p2 np2 => ?_⟩
  have sp2 := same_new np2 (.lst (acc ++ ws))
  have tcat : ∀ {H' : Hp} {p' : Addr}, Same H14 H' → H' p' = some (.lst (acc ++ ws)) → TreeAt H' (.ref p') (.mk (behindL l1 m1)) := fun {H' p'} s' e => by
    rw [treeAt_mk]
    exact ⟨p', _, rfl, e, TreesAt.append (TreesAt.same s' _ tacc) (TreesAt.same s' _ hws)⟩
  have s14p := s15.trans (s16.trans sp2)
  refine ne_trees (TreeAt.same s14p _ n14.at_) (tcat s14p upd_same) (dep63 ob) (dep63 ob) ⟨_, rfl, iteNS rfl ?_⟩
  obtain ⟨as2, ow2, nd2, spl2⟩ := n14.spoil s14p
  refine ⟨_, rfl, nv, _, as2, rfl, ow2, nd2, ob.fit, kn_lim ob, ob.dp, fun H17 k17 => ⟨_, rfl, iteF ?_⟩⟩
  obtain ⟨s1317, keep2, _⟩ := spl2 H17 k17
  have hD17 : H17 D = some (.lst acc) := keep2 D _ nD (sp2 _ _ hD16)
  have hd17 := s1317 _ _ hd13
  have hL17 := s1317 _ _ hL13
  have hv17 := TreeAt.same s1317 _ hv13
  have hw17 := TreeAt.same s1317 _ hw13
  have ha17 := TreeAt.same (s013.trans s1317) _ ht
  have hb17 := TreeAt.same (s013.trans s1317) _ hs
  have tw17 := TreeAt.same s1317 _ tw13
  have tacc17 := TreesAt.same s1317 _ (sm.at_ hzs13)
  have hws17 := TreesAt.same s1317 _ hws13
  -- handed != [one, other]
  refine ⟨_, rfl, _, rfl, _, rfl, (by show 2 ≤ sizeLine; decide), fun p3 np3 => ?_⟩
  have sp3 := same_new np3 (.lst [.ref a, .ref b])
  refine ne_trees (tree_two (sp3 _ _ hL17) (TreeAt.same sp3 _ hv17) (TreeAt.same sp3 _ hw17)) (tree_two upd_same (TreeAt.same sp3 _ ha17) (TreeAt.same sp3 _ hb17)) (ok_two ho hos) (ok_two ho hos) ⟨_, rfl, iteNS rfl ?_⟩
  -- once more
  have hL18 := sp3 _ _ hL17
  refine ⟨_, rfl, L, _, 0, _, rfl, rfl, SqL.of hL18, at0, _, rfl, L, _, 1, _, rfl, rfl, SqL.of hL18, at1, hv, hw, rfl, .inl ⟨_, _, TreeAt.same sp3 _ hv17, ho, TreeAt.same sp3 _ hw17, hos, fun _ H19 rv n19 => ?_, fun hbad => absurd hbad (Nat.not_lt.mpr om1)⟩⟩
  replace n19 : New _ H19 rv (.mk (merge (toldL [] l) (toldL [] m))) := n19
  rw [hl1, hm1] at n19
  have s1719 := sp3.trans n19.1
  have hL19 := s1719 _ _ hL17
  refine ⟨_, rfl, L, _, 0, _, rfl, rfl, SqL.of hL19, at0, _, rfl, L, _, 1, _, rfl, rfl, SqL.of hL19, at1, hv, hw, rfl, .inl ⟨_, _, TreeAt.same s1719 _ hv17, ho, TreeAt.same s1719 _ hw17, hos, fun _ H20 rw' n20 => ?_, fun hbad => absurd hbad (Nat.not_lt.mpr ob1)⟩⟩
  replace n20 : New _ H20 rw' (.mk (behindL (toldL [] l) (toldL [] m))) := n20
  rw [hl1, hm1] at n20
  have s1720 := s1719.trans n20.1
  refine ⟨(by show 2 ≤ sizeLine; decide), fun p4 np4 => ?_⟩
  have sp4 := same_new np4 (.lst [rv, rw'])
  have s1721 := s1720.trans sp4
  refine ⟨_, rfl, _, rfl, _, rfl, _, rfl, D, d, acc, ws, rfl, rfl, s1721 _ _ hD17, s1721 _ _ hd17, lcat, fun p5 np5 => ?_⟩
  have sp5 := same_new np5 (.lst (acc ++ ws))
  have s1722 := s1721.trans sp5
  refine ⟨(by show 2 ≤ sizeLine; decide), fun p6 np6 => ?_⟩
  have sp6 := same_new np6 (.lst [wv, .ref p5])
  have s1723 := s1722.trans sp6
  have tk : TreeAt (upd (upd (upd H20 p4 (.lst [rv, rw'])) p5 (.lst (acc ++ ws))) p6 (.lst [wv, .ref p5])) (.ref p5) (.mk (behindL l1 m1)) := by
    rw [treeAt_mk]
    exact ⟨p5, _, rfl, sp6 _ _ upd_same, TreesAt.append (TreesAt.same s1723 _ tacc17) (TreesAt.same s1723 _ hws17)⟩
  have s456 := sp4.trans (sp5.trans sp6)
  have tg1 : TreeAt _ (.ref p4) (.mk [.mk (merge l1 m1), .mk (behindL l1 m1)]) := tree_two ((sp5.trans sp6) _ _ upd_same) (TreeAt.same (n20.1.trans s456) _ n19.at_) (TreeAt.same s456 _ n20.at_)
  have tg2 : TreeAt _ (.ref p6) (.mk [.mk (merge l1 m1), .mk (behindL l1 m1)]) := tree_two upd_same (TreeAt.same s1723 _ tw17) tk
  refine eq_trees tg1 tg2 (ok_two om ob) (ok_two om ob) ⟨_, rfl, ?_⟩
  rw [decide_eq_true rfl]
  refine iteT ⟨_, rfl, _, rfl, _, rfl, (by show 2 ≤ sizeLine; decide), fun p7 np7 => ?_⟩
  have sp7 := same_new np7 (.lst [.ref a, .ref b])
  have s1724 := s1723.trans sp7
  refine eq_trees (tree_two (s1724 _ _ hL17) (TreeAt.same s1724 _ hv17) (TreeAt.same s1724 _ hw17)) (tree_two upd_same (TreeAt.same s1724 _ ha17) (TreeAt.same s1724 _ hb17)) (ok_two ho hos) (ok_two ho hos) ?_
  rw [decide_eq_true rfl]
  exact q _ (s013.trans (s1317.trans s1724))
end
section
variable {P : Program} {w : World} {K : PySem.W.Frag} {mg : Str → Option Value} {base : Heap}
/-! ### law -/
def spLaw (K : PySem.W.Frag) : Sp := fun vs H Q _ => ∃ (a : Addr) (ns : List Int), vs = [.ref a] ∧ SqL K H a (ns.map V.int) ∧ ns.length ≤ 63 ∧ (∀ n, n ∈ ns → Bits n NB) ∧ ∀ H', Q (.bl true) H'
theorem okT_of {t : Tt} (k d : Nat) (h1 : knots t ≤ k) (h2 : depth t ≤ d) (hk : k ≤ 300) (hd : d ≤ 40) : okT t := ⟨Nat.le_trans h1 hk, Nat.le_trans h2 hd⟩
theorem knots_mk (l : List Tt) : knots (.mk l) = 1 + knotsL l := by rw [knots]
theorem depth_mk (l : List Tt) : depth (.mk l) = depthL l := by rw [depth]
theorem drop1 (l : List Tt) : knotsL (l.drop 1) ≤ knotsL l ∧ depthL (l.drop 1) ≤ depthL l := by
  cases l with
  | nil => exact ⟨Nat.le_refl _, Nat.le_refl _⟩
  | cons x l => rw [List.drop_succ_cons, List.drop_zero, knotsL, depthL]; exact ⟨by omega, by omega⟩
theorem TreesAt.drop {H : Hp} : ∀ (n : Nat) {vs : List V} {ts : List Tt}, TreesAt H vs ts → TreesAt H (vs.drop n) (ts.drop n)
  | 0, _, _, h => h
  | n + 1, vs, [], h => by rw [treesAt_nil] at h; subst h; rw [List.drop_nil, List.drop_nil, treesAt_nil]
  | n + 1, vs, t :: ts, h => by
    rw [treesAt_cons] at h
    obtain ⟨v, vs', rfl, _, h2⟩ := h
    exact TreesAt.drop n h2
theorem ok_law (T : Txt K mg) : FnOk P w K mg base CX0 46 T.a_law T.d_law ["_law_script"] (spLaw K) := by
  have G__law_tree := ok__law_tree (P := P) (w := w) (base := base) T
  have G__law_copied := ok__law_copied (P := P) (w := w) (base := base) T 41
  have G__law_turned := ok__law_turned (P := P) (w := w) (base := base) T 41
  have G__law_told_right := ok__law_told_right (P := P) (w := w) (base := base) T
  have G__law_pair_right := ok__law_pair_right (P := P) (w := w) (base := base) T
  have G_compare := ok_compare (P := P) (w := w) (base := base) T
  have G_behind := ok_behind (P := P) (w := w) (base := base) T
  have G_told := ok_told (P := P) (w := w) (base := base) T
  refine T.F_law.ok sc_law (fun vs H Q E h => ?_) (fun cdv A outer s H vs Q E hr h => ?_)
  · obtain ⟨a, ns, rfl, _⟩ := h; rfl
  obtain ⟨a, ns, rfl, hS, h63, hB, q⟩ := h
  have R__law_tree : Room 2 _ := hr.mono (by omega)
  have R__law_copied : Room 41 _ := hr.mono (by omega)
  have R__law_turned : Room 41 _ := hr.mono (by omega)
  have R__law_told_right : Room 45 _ := hr
  have R__law_pair_right : Room 45 _ := hr
  have R_compare : Room 44 _ := hr.mono (by omega)
  have R_behind : Room 44 _ := hr.mono (by omega)
  have R_told : Room 44 _ := hr.mono (by omega)
  have hu64 := hr.units
  refine ⟨_, (pss_cut2 (ps_if (pt_cmpR op_eq (pe_op op_mod (pe_callB (r := rSum K) (cr_sum rfl) (by rfl) T.z_sum (by decide +kernel) (pa_cons (pe_slice (r := rSlL K) sl_list (pv 0) po_none (po_some pe_int)) pa_nil)) pe_int) pe_int (nomark _)) (pss_cons (ps_set (i := 1) sc_law.nd rfl (Or.inl rfl) (pe_lst pa_nil))
        (pss_cons (ps_for PassesOwn.never rfl (pi_range1 (by rfl) T.z_range (pa_cons (pe_op op_add pe_int (pe_op op_mod (pe_op op_fdivW (pe_callB (r := rSum K) (cr_sum rfl) (by rfl) T.z_sum (by decide +kernel) (pa_cons (pe_slice (r := rSlL K) sl_list (pv 0) po_none (po_some pe_int)) pa_nil)) pe_int) pe_int)) pa_nil)) (pg_name (i := 2) sc_law.nd rfl (Or.inl rfl)) (pss_one (ps_set (i := 1) sc_law.nd rfl (Or.inl rfl) (pe_op op_cat (pv 1) (pe_call G__law_copied R__law_copied rfl T.m__law_copied T.k__law_copied T.b__law_copied .nil pass0 (pa_cons (pe_call G__law_tree R__law_tree rfl T.m__law_tree T.k__law_tree T.b__law_tree .nil pass0 (pa_cons (pv 0) (pa_cons pe_int (pa_cons (pv 2) pa_nil)))) pa_nil))))))
        (pss_one (ps_if (PW.pt (pw_or (pt_not (pt_val (pe_call G__law_told_right R__law_told_right rfl T.m__law_told_right T.k__law_told_right T.b__law_told_right .nil pass0 (pa_cons (pv 1) pa_nil)))) (pw_or1 (pt_not (pt_val (pe_call G__law_pair_right R__law_pair_right rfl T.m__law_pair_right T.k__law_pair_right T.b__law_pair_right .nil pass0 (pa_cons (pv 1) (pa_cons (pe_call G__law_tree R__law_tree rfl T.m__law_tree T.k__law_tree T.b__law_tree .nil pass0 (pa_cons (pv 0) (pa_cons pe_int (pa_cons pe_int pa_nil)))) pa_nil)))))))) (pss_one (ps_ret pe_bl)) pss_nil)))) pss_nil)
      (pss_cons (ps_set (i := 3) sc_law.nd rfl (Or.inl rfl) (pe_call G__law_tree R__law_tree rfl T.m__law_tree T.k__law_tree T.b__law_tree .nil pass0 (pa_cons (pv 0) (pa_cons pe_int (pa_cons pe_int pa_nil)))))
      (pss_cons (ps_set (i := 4) sc_law.nd rfl (Or.inl rfl) (pe_call G__law_tree R__law_tree rfl T.m__law_tree T.k__law_tree T.b__law_tree .nil pass0 (pa_cons (pe_revL (pv 0)) (pa_cons pe_int (pa_cons pe_int pa_nil)))))
      (pss_cons (ps_set (i := 5) sc_law.nd rfl (Or.inl rfl) (pe_call G__law_tree R__law_tree rfl T.m__law_tree T.k__law_tree T.b__law_tree .nil pass0 (pa_cons (pe_slice (r := rSlL K) sl_list (pv 0) (po_some pe_int) po_none) (pa_cons pe_int (pa_cons pe_int pa_nil)))))
      (pss_cons (ps_set (i := 6) sc_law.nd rfl (Or.inl rfl) (pe_lst (pa_cons (pv 3) (pa_cons (pv 4) (pa_cons (pv 5) (pa_cons (pe_call G__law_turned R__law_turned rfl T.m__law_turned T.k__law_turned T.b__law_turned .nil pass0 (pa_cons (pv 3) pa_nil)) (pa_cons (pe_op op_cat (pv 3) (pe_lst (pa_cons (pe_lst pa_nil) pa_nil))) (pa_cons (pe_slice (r := rSlL K) sl_list (pv 3) (po_some pe_int) po_none) (pa_cons (pe_lst (pa_cons (pv 3) pa_nil)) (pa_cons (pe_lst (pa_cons (pv 4) (pa_cons (pv 4) pa_nil))) (pa_cons (pe_lst pa_nil) pa_nil)))))))))))
      (pss_cons (ps_if (pt_not (pt_val (pe_callB (r := rAll K) (cr_all rfl) (by rfl) T.z_all (by decide +kernel) (pa_cons (pe_lc (own := [("_law_some", 9)]) (g := gName 9) (tt := tYes) rfl sc_law.nd (pi_list (pv 6)) (blkOk_by (own := [("_law_some", 9)]) (N := ["_law_script", "_law_wide", "_law_time", "_law_tree_here", "_law_other", "_law_third", "_law_trees", "_law_one", "_law_far", "_law_some"]) (sc := defScope s_law) (by decide +kernel)) (fun _ _ _ _ _ => (pg_name (i := 9) sc_law.nd rfl (Or.inl rfl))) (fun _ _ _ _ _ => pts_nil) (fun _ _ _ _ _ => (pe_call G__law_told_right R__law_told_right rfl T.m__law_told_right T.k__law_told_right T.b__law_told_right .nil pass0 (pa_cons (pv 9) pa_nil)))) pa_nil)))) (pss_one (ps_ret pe_bl)) pss_nil)
      (pss_cons (ps_for PassesOwn.never rfl (pi_list (pe_lst (pa_cons (pe_tup (pa_cons (pv 3) (pa_cons (pv 4) pa_nil))) (pa_cons (pe_tup (pa_cons (pv 3) (pa_cons (pv 5) pa_nil))) (pa_cons (pe_tup (pa_cons (pv 4) (pa_cons (pv 5) pa_nil))) (pa_cons (pe_tup (pa_cons (pv 3) (pa_cons (pe_ix (r := rIxL K) ix_list (pv 6) pe_int (fun _ _ => rfl)) pa_nil))) (pa_cons (pe_tup (pa_cons (pv 3) (pa_cons (pe_ix (r := rIxL K) ix_list (pv 6) pe_int (fun _ _ => rfl)) pa_nil))) (pa_cons (pe_tup (pa_cons (pv 5) (pa_cons (pe_lst pa_nil) pa_nil))) pa_nil)))))))) (pg_tup rfl (pgs_cons (pg_name (i := 7) sc_law.nd rfl (Or.inl rfl)) (pgs_cons (pg_name (i := 8) sc_law.nd rfl (Or.inl rfl)) pgs_nil))) (pss_one (ps_if (pt_not (pt_val (pe_call G__law_pair_right R__law_pair_right rfl T.m__law_pair_right T.k__law_pair_right T.b__law_pair_right .nil pass0 (pa_cons (pv 7) (pa_cons (pv 8) pa_nil))))) (pss_one (ps_ret pe_bl)) pss_nil)))
      (pss_cons (ps_if (PW.pt (pw_or (pt_cmpR op_ne (pe_call G_compare R_compare rfl T.m_compare T.k_compare T.b_compare .nil passL (pa_cons (pe_lst (pa_cons (pe_lst (pa_cons (pe_lst pa_nil) pa_nil)) pa_nil)) (pa_cons (pe_lst (pa_cons (pe_lst pa_nil) (pa_cons (pe_lst pa_nil) (pa_cons (pe_lst pa_nil) pa_nil)))) pa_nil))) pe_int (nomark _)) (pw_or (pt_cmpR op_ne (pe_call G_compare R_compare rfl T.m_compare T.k_compare T.b_compare .nil passL (pa_cons (pe_lst pa_nil) (pa_cons (pe_lst pa_nil) pa_nil))) pe_int (nomark _)) (pw_or1 (pt_cmpR op_ne (pe_call G_compare R_compare rfl T.m_compare T.k_compare T.b_compare .nil passL (pa_cons (pe_lst (pa_cons (pe_lst pa_nil) (pa_cons (pe_lst (pa_cons (pe_lst pa_nil) pa_nil)) pa_nil))) (pa_cons (pe_lst (pa_cons (pe_lst (pa_cons (pe_lst pa_nil) pa_nil)) (pa_cons (pe_lst pa_nil) pa_nil))) pa_nil))) pe_int (nomark _)))))) (pss_one (ps_ret pe_bl)) pss_nil)
      (pss_one (ps_ret (pe_and (pe_cmpR (r := rEqD K) (op_eqD hu64) (pe_call G_behind R_behind rfl T.m_behind T.k_behind T.b_behind .nil passL (pa_cons (pe_lst (pa_cons (pe_lst pa_nil) pa_nil)) (pa_cons (pe_lst (pa_cons (pe_lst (pa_cons (pe_lst pa_nil) pa_nil)) pa_nil)) pa_nil))) (pe_lst (pa_cons (pe_lst (pa_cons (pe_lst pa_nil) pa_nil)) pa_nil)) (nomark _)) (pe_and (pe_cmpR (r := rEqD K) (op_eqD hu64) (pe_call G_behind R_behind rfl T.m_behind T.k_behind T.b_behind .nil passL (pa_cons (pe_lst (pa_cons (pe_lst (pa_cons (pe_lst pa_nil) pa_nil)) pa_nil)) (pa_cons (pe_lst (pa_cons (pe_lst pa_nil) pa_nil)) pa_nil))) (pe_lst (pa_cons (pe_lst (pa_cons (pe_lst pa_nil) pa_nil)) (pa_cons (pe_lst pa_nil) pa_nil))) (nomark _)) (pe_one (pe_cmpR (r := rEqD K) (op_eqD hu64) (pe_call G_told R_told rfl T.m_told T.k_told T.b_told .nil passL (pa_cons (pe_lst (pa_cons (pe_lst pa_nil) (pa_cons (pe_lst (pa_cons (pe_lst pa_nil) pa_nil)) pa_nil))) pa_nil)) (pe_lst (pa_cons (pe_lst (pa_cons (pe_lst pa_nil) pa_nil)) (pa_cons (pe_lst pa_nil) pa_nil))) (nomark _))))))))))))))), ?_⟩
  have bNB : ∀ {l : List Int}, (∀ n, n ∈ l → n ∈ ns) → ∀ n, n ∈ l → Bits n NB := fun h n hn => hB n (h n hn)
  have seven : [(V.int 35 : V)] = [V.int ((35 : Nat) : Int)] := rfl
  refine ⟨fun σ' H' => Same H H' ∧ ∃ o1 o2, σ' = [some (V.ref a), o1, o2, none, none, none, none, none, none, none], ?_, ?_⟩
  · -- in few lists a wide tree besides
    refine ⟨_, rfl, _, rfl, a, _, rfl, hS, fun p np => ?_⟩
    have sp := same_new np (.lst (cutV (ns.map V.int) none (some 63)))
    have e63 : cutV (ns.map V.int) none (some 63) = (ns.take 63).map V.int := by
      have h := cutV_take (ns.map V.int) 63
      rw [List.map_take]
      exact h
    refine ⟨p, ns.take 63, rfl, SqL.of (by rw [upd_same, e63]), _, _, rfl, rfl, (by show (0 : Int) < 16; decide), rfl, _, rfl, ?_⟩
    refine ite2 (fun _ => ?_) (fun _ => ⟨sp, none, none, rfl⟩)
    refine ⟨(by show 0 ≤ sizeLine; decide), fun W nW => ?_⟩
    have sW := same_new nW (.lst [])
    refine ⟨_, rfl, _, rfl, a, _, rfl, (sp.trans sW).seq hS, fun p2 np2 => ?_⟩
    have sp2 := same_new np2 (.lst (cutV (ns.map V.int) none (some 63)))
    refine ⟨p2, ns.take 63, rfl, SqL.of (by rw [upd_same, e63]), _, _, rfl, rfl, wide_div (b := 5) (by decide) (by decide) (by decide) (by decide), _, _, rfl, rfl, (by show (0 : Int) < 6; decide), _, _, rfl, rfl, ?_⟩
    have m0 : 0 ≤ (ns.take 63).sum / 16 % 6 := Int.emod_nonneg _ (by decide)
    have m1 : (ns.take 63).sum / 16 % 6 < 6 := Int.emod_lt_of_pos _ (by decide)
    generalize (ns.take 63).sum / 16 % 6 = mm at m0 m1 ⊢
    refine ⟨_, rfl, by omega, by omega, ?_⟩
    have en : (1 + mm).toNat ≤ 6 := by omega
    refine for_range (fun i σ H' => Same H H' ∧ ∃ (wv : V) (o : Option V) (l : List Tt), σ = [some (V.ref a), some wv, o, none, none, none, none, none, none, none] ∧ TreeAt H' wv (.mk l) ∧ knotsL l ≤ 35 * i ∧ depthL l ≤ 35) ⟨sp.trans (sW.trans sp2), _, none, [], rfl, nil_tree (sp2 _ _ upd_same), by rw [knotsL]; omega, by rw [depthL]; omega⟩ ?_ ?_
    · rintro i σ H1 hi ⟨s1, wv, o, l, rfl, tw, kl, dl⟩
      have ez : (0 : Int) + (i : Int) = (i : Int) := by omega
      rw [ez]
      refine ⟨_, rfl, _, rfl, _, rfl, a, ns, 35, i, rfl, s1.seq hS, hB, by decide, by decide, by omega, fun H2 r t n2 k2 d2 => ?_⟩
      have ft : fit t := fit_of_knots (n := 100) (by decide) t (by omega)
      refine ⟨r, t, rfl, n2.at_, ft, by omega, fun H3 r3 n3 => ?_⟩
      have tw3 := TreeAt.same (n2.1.trans n3.1) _ tw
      have tr3 := n3.at_
      cases t with
      | mk m =>
        rw [treeAt_mk] at tw3 tr3
        obtain ⟨b, xs, rfl, hb, hxs⟩ := tw3
        obtain ⟨c, ys, rfl, hc, hys⟩ := tr3
        have lx := hxs.len
        have ly := hys.len
        have h1 := knotsL_len l
        have h2 := knotsL_len m
        rw [knots] at k2
        rw [depth] at d2
        have lz : xs.length + ys.length ≤ 1000 := by omega
        refine ⟨b, c, xs, ys, rfl, rfl, hb, hc, Nat.le_trans lz (by decide), fun p3 np3 => ?_⟩
        have sp3 := same_new np3 (.lst (xs ++ ys))
        refine ⟨s1.trans (n2.1.trans (n3.1.trans sp3)), .ref p3, some (.int i), l ++ m, rfl, ?_, ?_, ?_⟩
        · rw [treeAt_mk]
          exact ⟨p3, _, rfl, upd_same, TreesAt.append (TreesAt.same sp3 _ hxs) (TreesAt.same sp3 _ hys)⟩
        · rw [knotsL_append]; omega
        · rw [depthL_append]; omega
    · rintro σ H1 ⟨s1, wv, o, l, rfl, tw, kl, dl⟩
      have ow : okT (.mk l) := okT_of 211 35 (by rw [knots_mk]; omega) (by rw [depth_mk]; omega) (by decide) (by decide)
      refine ⟨_, rfl, wv, _, rfl, tw, ow, fun H2 s2 => ⟨_, rfl, iteF ?_⟩⟩
      refine ⟨_, rfl, _, rfl, a, ns, 20, 1, rfl, (s1.trans s2).seq hS, hB, by decide, by decide, by decide, fun H3 r t n3 k3 d3 => ?_⟩
      have ot : okT t := okT_of 21 20 k3 d3 (by decide) (by decide)
      refine ⟨wv, r, _, t, rfl, TreeAt.same (s2.trans n3.1) _ tw, ow, n3.at_, ot, by rw [knots_mk]; omega, fun H4 s4 => ⟨_, rfl, iteF ?_⟩⟩
      exact ⟨s1.trans (s2.trans (n3.1.trans s4)), _, _, rfl⟩
  rintro σ1 H1 ⟨s1, o1, o2, rfl⟩
  -- the trees
  refine ⟨_, rfl, a, ns, 35, 0, rfl, s1.seq hS, hB, by decide, by decide, by decide, fun H2 v0 t0 n2 k0 d0 => ?_⟩
  have s2 := s1.trans n2.1
  refine ⟨_, rfl, a, _, rfl, s2.seq hS, fun p np => ?_⟩
  have sp := same_new np (.lst (ns.map V.int).reverse)
  refine ⟨p, ns.reverse, 12, 1, rfl, SqL.of (by rw [upd_same, List.map_reverse]), bNB fun n hn => List.mem_reverse.mp hn, by decide, by decide, by decide, fun H3 v1 t1 n3 k1 d1 => ?_⟩
  have s3 := s2.trans (sp.trans n3.1)
  refine ⟨_, rfl, _, rfl, a, _, rfl, s3.seq hS, fun p2 np2 => ?_⟩
  have sp2 := same_new np2 (.lst (cutV (ns.map V.int) (some 3) none))
  have e3 : cutV (ns.map V.int) (some 3) none = (ns.drop 3).map V.int := by
    have h := cutV_drop (ns.map V.int) 3
    rw [List.map_drop]
    exact h
  refine ⟨p2, ns.drop 3, 20, 2, rfl, SqL.of (by rw [upd_same, e3]), bNB fun n hn => List.mem_of_mem_drop hn, by decide, by decide, by decide, fun H4 v2 t2 n4 k2 d2 => ?_⟩
  have o0 : okT t0 := okT_of 36 35 k0 d0 (by decide) (by decide)
  have ok1 : okT t1 := okT_of 13 12 k1 d1 (by decide) (by decide)
  have ok2 : okT t2 := okT_of 21 20 k2 d2 (by decide) (by decide)
  have a0 : TreeAt H4 v0 t0 := TreeAt.same (sp.trans (n3.1.trans (sp2.trans n4.1))) _ n2.at_
  have a1 : TreeAt H4 v1 t1 := TreeAt.same (sp2.trans n4.1) _ n3.at_
  have a2 : TreeAt H4 v2 t2 := n4.at_
  refine ⟨_, rfl, _, rfl, _, rfl, _, rfl, v0, t0, rfl, a0, o0.fit, o0.dp, fun H5 v3 t3 n5 k3 d3 => ?_⟩
  have s5 := n5.1
  have ok3 : okT t3 := ⟨by rw [k3]; exact o0.1, by rw [d3]; exact o0.2⟩
  have a3 := n5.at_
  -- tree + [[]]
  refine ⟨_, rfl, (by show 0 ≤ sizeLine; decide), fun p3 np3 => ?_⟩
  have sp3 := same_new np3 (.lst [])
  have up3 : upd H5 p3 (.lst []) p3 = some (.lst []) := upd_same
  generalize upd H5 p3 (.lst []) = H5a at sp3 up3 ⊢
  refine ⟨(by show 1 ≤ sizeLine; decide), fun p4 np4 => ?_⟩
  have sp4 := same_new np4 (.lst [.ref p3])
  have up4 : upd H5a p4 (.lst [.ref p3]) p4 = some (.lst [.ref p3]) := upd_same
  generalize upd H5a p4 (.lst [.ref p3]) = H5b at sp4 up4 ⊢
  have s46 := s5.trans (sp3.trans sp4)
  obtain ⟨l0, e0⟩ : ∃ l0, t0 = .mk l0 := by cases t0; exact ⟨_, rfl⟩
  subst e0
  have a0' := TreeAt.same s46 _ a0
  rw [treeAt_mk] at a0'
  obtain ⟨b, xs, ev0, hb, hxs⟩ := a0'
  subst ev0
  have lx := hxs.len
  have kl0 := knotsL_len l0
  rw [knots_mk] at k0
  rw [depth_mk] at d0
  refine ⟨b, p4, xs, _, rfl, rfl, hb, up4, Nat.le_trans (show xs.length + 1 ≤ 1000 by omega) (by decide), fun p5 np5 => ?_⟩
  have sp5 := same_new np5 (.lst (xs ++ [V.ref p3]))
  have up5 : upd H5b p5 (.lst (xs ++ [V.ref p3])) p5 = some (.lst (xs ++ [V.ref p3])) := upd_same
  generalize upd H5b p5 (.lst (xs ++ [V.ref p3])) = H5c at sp5 up5 ⊢
  -- tree[1:]
  have hb5 := sp5 _ _ hb
  refine ⟨_, rfl, _, rfl, b, xs, rfl, SqL.of hb5, fun p6 np6 => ?_⟩
  have e1 : cutV xs (some 1) none = xs.drop 1 := cutV_drop xs 1
  rw [e1]
  have sp6 := same_new np6 (.lst (xs.drop 1))
  have up6 : upd H5c p6 (.lst (xs.drop 1)) p6 = some (.lst (xs.drop 1)) := upd_same
  generalize upd H5c p6 (.lst (xs.drop 1)) = H5d at sp6 up6 ⊢
  -- [tree], [other, other], []
  refine ⟨_, rfl, (by show 1 ≤ sizeLine; decide), fun p7 np7 => ?_⟩
  have sp7 := same_new np7 (.lst [.ref b])
  have up7 : upd H5d p7 (.lst [.ref b]) p7 = some (.lst [.ref b]) := upd_same
  generalize upd H5d p7 (.lst [.ref b]) = H5e at sp7 up7 ⊢
  refine ⟨_, rfl, _, rfl, (by show 2 ≤ sizeLine; decide), fun p8 np8 => ?_⟩
  have sp8 := same_new np8 (.lst [v1, v1])
  have up8 : upd H5e p8 (.lst [v1, v1]) p8 = some (.lst [v1, v1]) := upd_same
  generalize upd H5e p8 (.lst [v1, v1]) = H5f at sp8 up8 ⊢
  refine ⟨(by show 0 ≤ sizeLine; decide), fun p9 np9 => ?_⟩
  have sp9 := same_new np9 (.lst [])
  have up9 : upd H5f p9 (.lst []) p9 = some (.lst []) := upd_same
  generalize upd H5f p9 (.lst []) = H5g at sp9 up9 ⊢
  refine ⟨(by show 9 ≤ sizeLine; decide), fun L nL => ?_⟩
  have sL := same_new nL (.lst [.ref b, v1, v2, v3, .ref p5, .ref p6, .ref p7, .ref p8, .ref p9])
  have hL : upd H5g L (.lst [.ref b, v1, v2, v3, .ref p5, .ref p6, .ref p7, .ref p8, .ref p9]) L = some (.lst [.ref b, v1, v2, v3, .ref p5, .ref p6, .ref p7, .ref p8, .ref p9]) := upd_same
  have s9L := sp9.trans sL
  have s8L := sp8.trans s9L
  have s7L := sp7.trans s8L
  have s6L := sp6.trans s7L
  have s5L := sp5.trans s6L
  have s4L := s46.trans s5L
  have s04 : Same H H4 := s3.trans (sp2.trans n4.1)
  have s0L := s04.trans s4L
  have b0 := TreeAt.same s4L _ a0
  have b1 := TreeAt.same s4L _ a1
  have b2 := TreeAt.same s4L _ a2
  have b3 := TreeAt.same (sp3.trans (sp4.trans s5L)) _ a3
  have b4' : TreeAt H5c (.ref p5) (.mk (l0 ++ [.mk []])) := by
    rw [treeAt_mk]
    exact ⟨p5, _, rfl, up5, TreesAt.append (TreesAt.same sp5 _ hxs) (TreesAt.one (nil_tree ((sp4.trans sp5) _ _ up3)))⟩
  have b4 := TreeAt.same s6L _ b4'
  have b5' : TreeAt H5d (.ref p6) (.mk (l0.drop 1)) := by
    rw [treeAt_mk]
    exact ⟨p6, _, rfl, up6, TreesAt.drop 1 (TreesAt.same (sp5.trans sp6) _ hxs)⟩
  have b5 := TreeAt.same s7L _ b5'
  have u7L := s8L _ _ up7
  have u8L := s9L _ _ up8
  have u9L := sL _ _ up9
  generalize upd H5g L (.lst [.ref b, v1, v2, v3, .ref p5, .ref p6, .ref p7, .ref p8, .ref p9]) = HL at sL hL s9L s8L s7L s6L s5L s4L s0L b0 b1 b2 b3 b4 b5 u7L u8L u9L ⊢
  have b6 : TreeAt HL (.ref p7) (.mk [.mk l0]) := by
    rw [treeAt_mk]
    exact ⟨p7, _, rfl, u7L, TreesAt.one b0⟩
  have b7 : TreeAt HL (.ref p8) (.mk [t1, t1]) := tree_two u8L b1 b1
  have b8 : TreeAt HL (.ref p9) (.mk []) := nil_tree u9L
  have ok4 : okT (.mk (l0 ++ [.mk []])) := okT_of 37 35 (by rw [knots_mk, knotsL_append, knotsL, knots_mk, knotsL]; omega) (by rw [depth_mk, depthL_append, depthL, depth_mk, depthL]; omega) (by decide) (by decide)
  have ok5 : okT (.mk (l0.drop 1)) := okT_of 36 35 (by have := (drop1 l0).1; rw [knots_mk]; omega) (by have := (drop1 l0).2; rw [depth_mk]; omega) (by decide) (by decide)
  have ok6 : okT (.mk [.mk l0]) := okT_of 37 36 (by rw [knots_mk, knotsL, knots_mk, knotsL]; omega) (by rw [depth_mk, depthL, depth_mk, depthL]; omega) (by decide) (by decide)
  have ok7 : okT (.mk [t1, t1]) := okT_of 27 13 (by rw [knots_mk, knotsL, knotsL, knotsL]; omega) (by rw [depth_mk, depthL, depthL, depthL]; omega) (by decide) (by decide)
  have ok8 : okT (.mk []) := okT_of 1 0 (by rw [knots_mk, knotsL]; exact Nat.le_refl _) (by rw [depth_mk, depthL]; exact Nat.le_refl _) (by decide) (by decide)
  have all : TreesAt HL [.ref b, v1, v2, v3, .ref p5, .ref p6, .ref p7, .ref p8, .ref p9] [.mk l0, t1, t2, t3, .mk (l0 ++ [.mk []]), .mk (l0.drop 1), .mk [.mk l0], .mk [t1, t1], .mk []] :=
    treesAt_c b0 (treesAt_c b1 (treesAt_c b2 (treesAt_c b3 (treesAt_c b4 (treesAt_c b5 (treesAt_c b6 (treesAt_c b7 (TreesAt.one b8))))))))
  have allok : ∀ t, t ∈ [Tt.mk l0, t1, t2, t3, .mk (l0 ++ [.mk []]), .mk (l0.drop 1), .mk [.mk l0], .mk [t1, t1], .mk []] → okT t := by
    intro t ht
    simp only [List.mem_cons, List.mem_nil_iff, or_false] at ht
    rcases ht with e | e | e | e | e | e | e | e | e <;> subst e <;> assumption
  -- all told right
  refine ⟨_, rfl, L, rfl, ⟨_, SqL.of hL⟩, fun D nD => ?_⟩
  refine lc_it (walk_list (xs := [V.ref b, v1, v2, v3, .ref p5, .ref p6, .ref p7, .ref p8, .ref p9])) (fun i H' => Fill HL H' D ((List.replicate i true).map V.bl)) (Fill.start nD) (fun i H' _ g => SqL.of (g.1 _ _ hL)) ?_ ?_
  · rintro i x H6 H7 hi g ⟨rfl, hx⟩
    obtain ⟨t, ht, hxt⟩ := all.get hx
    refine ⟨rfl, _, rfl, x, t, rfl, TreeAt.same g.1 _ hxt, allok t (List.mem_of_getElem? ht), fun H8 s8 => ?_⟩
    obtain ⟨h1, h2⟩ := g.more (v := .bl true) s8
    refine ⟨_, h1, ?_, ?_⟩
    · rw [List.length_map, List.length_replicate]
      exact lim_line (Nat.le_trans (Nat.le_of_lt hi) (by show 9 ≤ lim; decide))
    · rw [List.replicate_succ', List.map_append]; exact h2
  intro H6 g
  refine ⟨D, _, rfl, SqL.of g.2.2, ?_⟩
  have eall : (List.replicate 9 true).all id = true := by decide
  show ∃ c, V.bl ((List.replicate 9 true).all id) = V.bl c ∧ _
  rw [eall]
  refine ⟨_, rfl, iteF ?_⟩
  have sL6 := g.1
  have hL6 := sL6 _ _ hL
  have c0 := TreeAt.same sL6 _ b0
  have c1 := TreeAt.same sL6 _ b1
  have c2 := TreeAt.same sL6 _ b2
  have c3 := TreeAt.same sL6 _ b3
  have c4 := TreeAt.same sL6 _ b4
  -- the pairs
  refine ⟨_, rfl, _, rfl, (by show 2 ≤ sizeLine; decide), fun q1 nq1 => ?_⟩
  have sq1 := same_new nq1 (.tup [.ref b, v1])
  have uq1 : upd H6 q1 (.tup [.ref b, v1]) q1 = some (.tup [.ref b, v1]) := upd_same
  generalize upd H6 q1 (.tup [.ref b, v1]) = G1 at sq1 uq1 ⊢
  refine ⟨_, rfl, _, rfl, (by show 2 ≤ sizeLine; decide), fun q2 nq2 => ?_⟩
  have sq2 := same_new nq2 (.tup [.ref b, v2])
  have uq2 : upd G1 q2 (.tup [.ref b, v2]) q2 = some (.tup [.ref b, v2]) := upd_same
  generalize upd G1 q2 (.tup [.ref b, v2]) = G2 at sq2 uq2 ⊢
  refine ⟨_, rfl, _, rfl, (by show 2 ≤ sizeLine; decide), fun q3 nq3 => ?_⟩
  have sq3 := same_new nq3 (.tup [v1, v2])
  have uq3 : upd G2 q3 (.tup [v1, v2]) q3 = some (.tup [v1, v2]) := upd_same
  generalize upd G2 q3 (.tup [v1, v2]) = G3 at sq3 uq3 ⊢
  have i3 : atI [V.ref b, v1, v2, v3, .ref p5, .ref p6, .ref p7, .ref p8, .ref p9] 3 = some v3 := by
    have h : atI [V.ref b, v1, v2, v3, .ref p5, .ref p6, .ref p7, .ref p8, .ref p9] ((3 : Nat) : Int) = some v3 := atI_nat rfl
    exact h
  have i4 : atI [V.ref b, v1, v2, v3, .ref p5, .ref p6, .ref p7, .ref p8, .ref p9] 4 = some (.ref p5) := by
    have h : atI [V.ref b, v1, v2, v3, .ref p5, .ref p6, .ref p7, .ref p8, .ref p9] ((4 : Nat) : Int) = some (.ref p5) := atI_nat rfl
    exact h
  refine ⟨_, rfl, _, rfl, L, _, 3, v3, rfl, rfl, SqL.of ((sq1.trans (sq2.trans sq3)) _ _ hL6), i3, (by show 2 ≤ sizeLine; decide), fun q4 nq4 => ?_⟩
  have sq4 := same_new nq4 (.tup [.ref b, v3])
  have uq4 : upd G3 q4 (.tup [.ref b, v3]) q4 = some (.tup [.ref b, v3]) := upd_same
  generalize upd G3 q4 (.tup [.ref b, v3]) = G4 at sq4 uq4 ⊢
  refine ⟨_, rfl, _, rfl, L, _, 4, .ref p5, rfl, rfl, SqL.of ((sq1.trans (sq2.trans (sq3.trans sq4))) _ _ hL6), i4, (by show 2 ≤ sizeLine; decide), fun q5 nq5 => ?_⟩
  have sq5 := same_new nq5 (.tup [.ref b, .ref p5])
  have uq5 : upd G4 q5 (.tup [.ref b, .ref p5]) q5 = some (.tup [.ref b, .ref p5]) := upd_same
  generalize upd G4 q5 (.tup [.ref b, .ref p5]) = G5 at sq5 uq5 ⊢
  refine ⟨_, rfl, (by show 0 ≤ sizeLine; decide), fun q6 nq6 => ?_⟩
  have sq6 := same_new nq6 (.lst [])
  have uq6 : upd G5 q6 (.lst []) q6 = some (.lst []) := upd_same
  generalize upd G5 q6 (.lst []) = G6 at sq6 uq6 ⊢
  refine ⟨(by show 2 ≤ sizeLine; decide), fun q7 nq7 => ?_⟩
  have sq7 := same_new nq7 (.tup [v2, .ref q6])
  have uq7 : upd G6 q7 (.tup [v2, .ref q6]) q7 = some (.tup [v2, .ref q6]) := upd_same
  generalize upd G6 q7 (.tup [v2, .ref q6]) = G7 at sq7 uq7 ⊢
  refine ⟨(by show 6 ≤ sizeLine; decide), fun q8 nq8 => ?_⟩
  have sq8 := same_new nq8 (.lst [.ref q1, .ref q2, .ref q3, .ref q4, .ref q5, .ref q7])
  have h8 : upd G7 q8 (.lst [.ref q1, .ref q2, .ref q3, .ref q4, .ref q5, .ref q7]) q8 = some (.lst [.ref q1, .ref q2, .ref q3, .ref q4, .ref q5, .ref q7]) := upd_same
  generalize upd G7 q8 (.lst [.ref q1, .ref q2, .ref q3, .ref q4, .ref q5, .ref q7]) = Hq at sq8 h8 ⊢
  have s78 := sq7.trans sq8
  have s68 := sq6.trans s78
  have s58 := sq5.trans s68
  have s48 := sq4.trans s58
  have s38 := sq3.trans s48
  have s28 := sq2.trans s38
  have s18 := sq1.trans s28
  have h1 := s28 _ _ uq1
  have h2 := s38 _ _ uq2
  have h3 := s48 _ _ uq3
  have h4 := s58 _ _ uq4
  have h5 := s68 _ _ uq5
  have h6 : TreeAt Hq (.ref q6) (.mk []) := nil_tree (s78 _ _ uq6)
  have h7 := sq8 _ _ uq7
  have e0 := TreeAt.same s18 _ c0
  have e1 := TreeAt.same s18 _ c1
  have e2 := TreeAt.same s18 _ c2
  have e3 := TreeAt.same s18 _ c3
  have e4 := TreeAt.same s18 _ c4
  have s0q := s0L.trans (sL6.trans s18)
  have pairs : ∀ x, x ∈ [V.ref q1, .ref q2, .ref q3, .ref q4, .ref q5, .ref q7] → ∃ (z : Addr) (y1 y2 : V) (t s : Tt), x = .ref z ∧ Hq z = some (.tup [y1, y2]) ∧ TreeAt Hq y1 t ∧ TreeAt Hq y2 s ∧ okT t ∧ okT s ∧ knots t + knots s ≤ 301 := by
    intro x hx
    simp only [List.mem_cons, List.mem_nil_iff, or_false] at hx
    have kk0 : knots (.mk l0) ≤ 36 := by rw [knots_mk]; exact k0
    have kk4 : knots (.mk (l0 ++ [.mk []])) ≤ 37 := by rw [knots_mk, knotsL_append, knotsL, knots_mk, knotsL]; omega
    have kk8 : knots (.mk []) ≤ 1 := by rw [knots_mk, knotsL]; exact Nat.le_refl _
    rcases hx with e | e | e | e | e | e
    · exact ⟨q1, _, _, _, _, e, h1, e0, e1, o0, ok1, by omega⟩
    · exact ⟨q2, _, _, _, _, e, h2, e0, e2, o0, ok2, by omega⟩
    · exact ⟨q3, _, _, _, _, e, h3, e1, e2, ok1, ok2, by omega⟩
    · exact ⟨q4, _, _, _, _, e, h4, e0, e3, o0, ok3, by rw [k3]; omega⟩
    · exact ⟨q5, _, _, _, _, e, h5, e0, e4, o0, ok4, by omega⟩
    · exact ⟨q7, _, _, _, _, e, h7, e2, h6, ok2, ok8, by omega⟩
  refine ⟨q8, rfl, ⟨_, SqL.of h8⟩, ?_⟩
  refine for_it (walk_list (xs := [V.ref q1, .ref q2, .ref q3, .ref q4, .ref q5, .ref q7])) (fun i σ H' => Same Hq H' ∧ ∃ y7 y8, σ = [some (V.ref a), o1, o2, some (V.ref b), some v1, some v2, some (V.ref L), y7, y8, none]) ⟨Same.refl _, none, none, rfl⟩ (fun i σ H' _ p => SqL.of (p.1 _ _ h8)) ?_ ?_
  · rintro i x σ H7 H8 hi ⟨s7, y7, y8, rfl⟩ ⟨rfl, hx⟩
    obtain ⟨z, y1, y2, t, s, rfl, hz, ht, hs, ot, os, kts⟩ := pairs x (List.mem_of_getElem? hx)
    refine ⟨z, _, rfl, SqT.of (s7 _ _ hz), rfl, _, _, rfl, _, _, rfl, rfl, ?_⟩
    refine ⟨_, rfl, _, rfl, y1, y2, t, s, rfl, TreeAt.same s7 _ ht, ot, TreeAt.same s7 _ hs, os, kts, fun H9 s9 => ⟨_, rfl, iteF ?_⟩⟩
    exact ⟨s7.trans s9, _, _, rfl⟩
  rintro σ H7 ⟨s7, y7, y8, rfl⟩
  -- by hand
  have lt2 : LitE _ (.mk [.mk [.mk []]]) := lit_lst (lit_cons (lit_lst (lit_cons lit0 lit_nil)) lit_nil)
  have lt1 : LitE _ (.mk [.mk []]) := lit_lst (lit_cons lit0 lit_nil)
  have lt3 : LitE _ (.mk [.mk [], .mk [], .mk []]) := lit_lst (lit_cons lit0 (lit_cons lit0 (lit_cons lit0 lit_nil)))
  have lt12 : LitE _ (.mk [.mk [], .mk [.mk []]]) := lit_lst (lit_cons lit0 (lit_cons lt1 lit_nil))
  have lt21 : LitE _ (.mk [.mk [.mk []], .mk []]) := lit_lst (lit_cons lt1 (lit_cons lit0 lit_nil))
  have k2 : okT (.mk [.mk [.mk []]]) := ⟨by decide +kernel, by decide +kernel⟩
  have k1' : okT (.mk [.mk []]) := ⟨by decide +kernel, by decide +kernel⟩
  have k3' : okT (.mk [.mk [], .mk [], .mk []]) := ⟨by decide +kernel, by decide +kernel⟩
  have k12 : okT (.mk [.mk [], .mk [.mk []]]) := ⟨by decide +kernel, by decide +kernel⟩
  have k21 : okT (.mk [.mk [.mk []], .mk []]) := ⟨by decide +kernel, by decide +kernel⟩
  dsimp only
  show tSeq _ _ _ _ _
  show tIfS (tOr _ _) _ _ _ _ _
  show tOr _ _ _ _ _
  show tTest (tOp _ _ _) _ _ _
  show tOp _ (tCall _ _ _ _) _ _ _ _
  show tCall _ _ _ (tCons _ _) _ _ _
  show tCons _ _ _ _ _
  show tLst _ _ _ _
  refine lt2 _ _ _ fun G1 w1 sg1 tw1 => ?_
  show tCons _ _ _ _ _
  show tLst _ _ _ _
  refine lt3 _ _ _ fun G2 w2 sg2 tw2 => ?_
  refine ⟨_, _, rfl, .inl ⟨_, _, TreeAt.same sg2 _ tw1, k2, tw2, k3', fun G3 sg3 => ⟨rfl, _, rfl, iteNS (by decide +kernel) ?_⟩⟩⟩
  show tOr _ _ _ _ _
  show tTest (tOp _ _ _) _ _ _
  show tOp _ (tCall _ _ _ _) _ _ _ _
  show tCall _ _ _ (tCons _ _) _ _ _
  show tCons _ _ _ _ _
  show tLst _ _ _ _
  refine lit0 _ _ _ fun G4 w4 sg4 tw4 => ?_
  show tCons _ _ _ _ _
  show tLst _ _ _ _
  refine lit0 _ _ _ fun G5 w5 sg5 tw5 => ?_
  refine ⟨_, _, rfl, .inl ⟨_, _, TreeAt.same sg5 _ tw4, ok8, tw5, ok8, fun G6 sg6 => ⟨rfl, _, rfl, iteNS (by decide +kernel) ?_⟩⟩⟩
  show tTest (tOp _ _ _) _ _ _
  show tOp _ (tCall _ _ _ _) _ _ _ _
  show tCall _ _ _ (tCons _ _) _ _ _
  show tCons _ _ _ _ _
  show tLst _ _ _ _
  refine lt12 _ _ _ fun G7 w7 sg7 tw7 => ?_
  show tCons _ _ _ _ _
  show tLst _ _ _ _
  refine lt21 _ _ _ fun G8 w8 sg8 tw8 => ?_
  refine ⟨_, _, rfl, .inl ⟨_, _, TreeAt.same sg8 _ tw7, k12, tw8, k21, fun G9 sg9 => ⟨rfl, _, rfl, iteNS (by decide +kernel) ?_⟩⟩⟩
  -- behind, told
  dsimp only [tNext]
  show tRet _ _ _ _
  show tAndV _ _ _ _ _
  show tOp _ (tCall _ _ _ _) _ _ _ _
  show tCall _ _ _ (tCons _ _) _ _ _
  show tCons _ _ _ _ _
  show tLst _ _ _ _
  refine lt1 _ _ _ fun F1 y1 sf1 ty1 => ?_
  show tCons _ _ _ _ _
  show tLst _ _ _ _
  refine lt2 _ _ _ fun F2 y2 sf2 ty2 => ?_
  refine ⟨_, _, rfl, .inl ⟨_, _, TreeAt.same sf2 _ ty1, k1', ty2, k2, fun _ F3 y3 nf3 => ?_, fun hbad => absurd hbad (by decide +kernel)⟩⟩
  show tLst _ _ _ _
  refine lt2 _ _ _ fun F4 y4 sf4 ty4 => ?_
  refine eq_trees (TreeAt.same sf4 _ nf3.at_) ty4 (by decide +kernel) (by decide +kernel) ⟨_, rfl, ?_⟩
  rw [decide_eq_true (by decide +kernel)]
  refine iteT ?_
  show tAndV _ _ _ _ _
  show tOp _ (tCall _ _ _ _) _ _ _ _
  show tCall _ _ _ (tCons _ _) _ _ _
  show tCons _ _ _ _ _
  show tLst _ _ _ _
  refine lt2 _ _ _ fun F5 y5 sf5 ty5 => ?_
  show tCons _ _ _ _ _
  show tLst _ _ _ _
  refine lt1 _ _ _ fun F6 y6 sf6 ty6 => ?_
  refine ⟨_, _, rfl, .inl ⟨_, _, TreeAt.same sf6 _ ty5, k2, ty6, k1', fun _ F7 y7 nf7 => ?_, fun hbad => absurd hbad (by decide +kernel)⟩⟩
  show tLst _ _ _ _
  refine lt21 _ _ _ fun F8 y8 sf8 ty8 => ?_
  refine eq_trees (TreeAt.same sf8 _ nf7.at_) ty8 (by decide +kernel) (by decide +kernel) ⟨_, rfl, ?_⟩
  rw [decide_eq_true (by decide +kernel)]
  refine iteT ?_
  show tOp _ (tCall _ _ _ _) _ _ _ _
  show tCall _ _ _ (tCons _ _) _ _ _
  show tCons _ _ _ _ _
  show tLst _ _ _ _
  refine lt12 _ _ _ fun F9 y9 sf9 ty9 => ?_
  refine ⟨_, rfl, .inl ⟨_, ty9, k12, fun F10 y10 nf10 => ?_⟩⟩
  show tLst _ _ _ _
  refine lt21 _ _ _ fun F11 y11 sf11 ty11 => ?_
  refine eq_trees (TreeAt.same sf11 _ nf10.at_) ty11 (by decide +kernel) (by decide +kernel) ?_
  rw [decide_eq_true (by decide +kernel)]
  exact q _
end
theorem all_mk {l : PySem.W.OpenLaw} {w : World} {K : PySem.W.Frag} {h : Heap} {mg : Str → Option Value} {fa : Addr} (X : K.In h) (G : h.Ns mainGlobals mg) (hfa : mg "law" = some (.ref fa))
    {a_is_tree : Addr} {od0 an0 : Option Addr} {sl0 : Array (Option Value)} {oc0 kV0 dc0 pm0 cd0 ct0 : Value}
    {a_asked_tree : Addr} {od1 an1 : Option Addr} {sl1 : Array (Option Value)} {oc1 kV1 dc1 pm1 cd1 ct1 : Value}
    {a_compared : Addr} {od2 an2 : Option Addr} {sl2 : Array (Option Value)} {oc2 kV2 dc2 pm2 cd2 ct2 : Value}
    {a_merged : Addr} {od3 an3 : Option Addr} {sl3 : Array (Option Value)} {oc3 kV3 dc3 pm3 cd3 ct3 : Value}
    {a_copied : Addr} {od4 an4 : Option Addr} {sl4 : Array (Option Value)} {oc4 kV4 dc4 pm4 cd4 ct4 : Value}
    {a_told_of : Addr} {od5 an5 : Option Addr} {sl5 : Array (Option Value)} {oc5 kV5 dc5 pm5 cd5 ct5 : Value}
    {a_told : Addr} {od6 an6 : Option Addr} {sl6 : Array (Option Value)} {oc6 kV6 dc6 pm6 cd6 ct6 : Value}
    {a_compare : Addr} {od7 an7 : Option Addr} {sl7 : Array (Option Value)} {oc7 kV7 dc7 pm7 cd7 ct7 : Value}
    {a_knots : Addr} {od8 an8 : Option Addr} {sl8 : Array (Option Value)} {oc8 kV8 dc8 pm8 cd8 ct8 : Value}
    {a_asked_great : Addr} {od9 an9 : Option Addr} {sl9 : Array (Option Value)} {oc9 kV9 dc9 pm9 cd9 ct9 : Value}
    {a_together : Addr} {od10 an10 : Option Addr} {sl10 : Array (Option Value)} {oc10 kV10 dc10 pm10 cd10 ct10 : Value}
    {a_behind : Addr} {od11 an11 : Option Addr} {sl11 : Array (Option Value)} {oc11 kV11 dc11 pm11 cd11 ct11 : Value}
    {a__law_number : Addr} {od12 an12 : Option Addr} {sl12 : Array (Option Value)} {oc12 kV12 dc12 pm12 cd12 ct12 : Value}
    {a__law_tree : Addr} {od13 an13 : Option Addr} {sl13 : Array (Option Value)} {oc13 kV13 dc13 pm13 cd13 ct13 : Value}
    {a__law_copied : Addr} {od14 an14 : Option Addr} {sl14 : Array (Option Value)} {oc14 kV14 dc14 pm14 cd14 ct14 : Value}
    {a__law_more : Addr} {od15 an15 : Option Addr} {sl15 : Array (Option Value)} {oc15 kV15 dc15 pm15 cd15 ct15 : Value}
    {a__law_told : Addr} {od16 an16 : Option Addr} {sl16 : Array (Option Value)} {oc16 kV16 dc16 pm16 cd16 ct16 : Value}
    {a__law_is_tree : Addr} {od17 an17 : Option Addr} {sl17 : Array (Option Value)} {oc17 kV17 dc17 pm17 cd17 ct17 : Value}
    {a__law_own : Addr} {od18 an18 : Option Addr} {sl18 : Array (Option Value)} {oc18 kV18 dc18 pm18 cd18 ct18 : Value}
    {a__law_spoilt : Addr} {od19 an19 : Option Addr} {sl19 : Array (Option Value)} {oc19 kV19 dc19 pm19 cd19 ct19 : Value}
    {a__law_turned : Addr} {od20 an20 : Option Addr} {sl20 : Array (Option Value)} {oc20 kV20 dc20 pm20 cd20 ct20 : Value}
    {a__law_told_right : Addr} {od21 an21 : Option Addr} {sl21 : Array (Option Value)} {oc21 kV21 dc21 pm21 cd21 ct21 : Value}
    {a__law_pair_right : Addr} {od22 an22 : Option Addr} {sl22 : Array (Option Value)} {oc22 kV22 dc22 pm22 cd22 ct22 : Value}
    {a_law : Addr} {od23 an23 : Option Addr} {sl23 : Array (Option Value)} {oc23 kV23 dc23 pm23 cd23 ct23 : Value}
    {t_MOST : Tok}
    {t_DEEPEST : Tok}
    {A_HeadError : Addr}
    {A_BadTree : Addr}
    {A_TooGreat : Addr}
    (n0 : PySem.W.nsIn K mainGlobals "is_tree" = some (some (.ref a_is_tree))) (l0 : K.lookup a_is_tree = some ⟨oc0, od0, .func (PySem.W.fnOf "is_tree" "is_tree" (defArgs s_is_tree) (defBody s_is_tree) (defScope s_is_tree) .none kV0 dc0 pm0 an0 cd0 ct0), sl0⟩) (c0 : PySem.W.codeIn K cd0 "is_tree" = true) (k0 : PySem.W.keepIn K (.ref a_is_tree) = true)
    (n1 : PySem.W.nsIn K mainGlobals "asked_tree" = some (some (.ref a_asked_tree))) (l1 : K.lookup a_asked_tree = some ⟨oc1, od1, .func (PySem.W.fnOf "asked_tree" "asked_tree" (defArgs s_asked_tree) (defBody s_asked_tree) (defScope s_asked_tree) .none kV1 dc1 pm1 an1 cd1 ct1), sl1⟩) (c1 : PySem.W.codeIn K cd1 "asked_tree" = true) (k1 : PySem.W.keepIn K (.ref a_asked_tree) = true)
    (n2 : PySem.W.nsIn K mainGlobals "compared" = some (some (.ref a_compared))) (l2 : K.lookup a_compared = some ⟨oc2, od2, .func (PySem.W.fnOf "compared" "compared" (defArgs s_compared) (defBody s_compared) (defScope s_compared) .none kV2 dc2 pm2 an2 cd2 ct2), sl2⟩) (c2 : PySem.W.codeIn K cd2 "compared" = true) (k2 : PySem.W.keepIn K (.ref a_compared) = true)
    (n3 : PySem.W.nsIn K mainGlobals "merged" = some (some (.ref a_merged))) (l3 : K.lookup a_merged = some ⟨oc3, od3, .func (PySem.W.fnOf "merged" "merged" (defArgs s_merged) (defBody s_merged) (defScope s_merged) .none kV3 dc3 pm3 an3 cd3 ct3), sl3⟩) (c3 : PySem.W.codeIn K cd3 "merged" = true) (k3 : PySem.W.keepIn K (.ref a_merged) = true)
    (n4 : PySem.W.nsIn K mainGlobals "copied" = some (some (.ref a_copied))) (l4 : K.lookup a_copied = some ⟨oc4, od4, .func (PySem.W.fnOf "copied" "copied" (defArgs s_copied) (defBody s_copied) (defScope s_copied) .none kV4 dc4 pm4 an4 cd4 ct4), sl4⟩) (c4 : PySem.W.codeIn K cd4 "copied" = true) (k4 : PySem.W.keepIn K (.ref a_copied) = true)
    (n5 : PySem.W.nsIn K mainGlobals "told_of" = some (some (.ref a_told_of))) (l5 : K.lookup a_told_of = some ⟨oc5, od5, .func (PySem.W.fnOf "told_of" "told_of" (defArgs s_told_of) (defBody s_told_of) (defScope s_told_of) .none kV5 dc5 pm5 an5 cd5 ct5), sl5⟩) (c5 : PySem.W.codeIn K cd5 "told_of" = true) (k5 : PySem.W.keepIn K (.ref a_told_of) = true)
    (n6 : PySem.W.nsIn K mainGlobals "told" = some (some (.ref a_told))) (l6 : K.lookup a_told = some ⟨oc6, od6, .func (PySem.W.fnOf "told" "told" (defArgs s_told) (defBody s_told) (defScope s_told) .none kV6 dc6 pm6 an6 cd6 ct6), sl6⟩) (c6 : PySem.W.codeIn K cd6 "told" = true) (k6 : PySem.W.keepIn K (.ref a_told) = true)
    (n7 : PySem.W.nsIn K mainGlobals "compare" = some (some (.ref a_compare))) (l7 : K.lookup a_compare = some ⟨oc7, od7, .func (PySem.W.fnOf "compare" "compare" (defArgs s_compare) (defBody s_compare) (defScope s_compare) .none kV7 dc7 pm7 an7 cd7 ct7), sl7⟩) (c7 : PySem.W.codeIn K cd7 "compare" = true) (k7 : PySem.W.keepIn K (.ref a_compare) = true)
    (n8 : PySem.W.nsIn K mainGlobals "knots" = some (some (.ref a_knots))) (l8 : K.lookup a_knots = some ⟨oc8, od8, .func (PySem.W.fnOf "knots" "knots" (defArgs s_knots) (defBody s_knots) (defScope s_knots) .none kV8 dc8 pm8 an8 cd8 ct8), sl8⟩) (c8 : PySem.W.codeIn K cd8 "knots" = true) (k8 : PySem.W.keepIn K (.ref a_knots) = true)
    (n9 : PySem.W.nsIn K mainGlobals "asked_great" = some (some (.ref a_asked_great))) (l9 : K.lookup a_asked_great = some ⟨oc9, od9, .func (PySem.W.fnOf "asked_great" "asked_great" (defArgs s_asked_great) (defBody s_asked_great) (defScope s_asked_great) .none kV9 dc9 pm9 an9 cd9 ct9), sl9⟩) (c9 : PySem.W.codeIn K cd9 "asked_great" = true) (k9 : PySem.W.keepIn K (.ref a_asked_great) = true)
    (n10 : PySem.W.nsIn K mainGlobals "together" = some (some (.ref a_together))) (l10 : K.lookup a_together = some ⟨oc10, od10, .func (PySem.W.fnOf "together" "together" (defArgs s_together) (defBody s_together) (defScope s_together) .none kV10 dc10 pm10 an10 cd10 ct10), sl10⟩) (c10 : PySem.W.codeIn K cd10 "together" = true) (k10 : PySem.W.keepIn K (.ref a_together) = true)
    (n11 : PySem.W.nsIn K mainGlobals "behind" = some (some (.ref a_behind))) (l11 : K.lookup a_behind = some ⟨oc11, od11, .func (PySem.W.fnOf "behind" "behind" (defArgs s_behind) (defBody s_behind) (defScope s_behind) .none kV11 dc11 pm11 an11 cd11 ct11), sl11⟩) (c11 : PySem.W.codeIn K cd11 "behind" = true) (k11 : PySem.W.keepIn K (.ref a_behind) = true)
    (n12 : PySem.W.nsIn K mainGlobals "_law_number" = some (some (.ref a__law_number))) (l12 : K.lookup a__law_number = some ⟨oc12, od12, .func (PySem.W.fnOf "_law_number" "_law_number" (defArgs s__law_number) (defBody s__law_number) (defScope s__law_number) .none kV12 dc12 pm12 an12 cd12 ct12), sl12⟩) (c12 : PySem.W.codeIn K cd12 "_law_number" = true) (k12 : PySem.W.keepIn K (.ref a__law_number) = true)
    (n13 : PySem.W.nsIn K mainGlobals "_law_tree" = some (some (.ref a__law_tree))) (l13 : K.lookup a__law_tree = some ⟨oc13, od13, .func (PySem.W.fnOf "_law_tree" "_law_tree" (defArgs s__law_tree) (defBody s__law_tree) (defScope s__law_tree) .none kV13 dc13 pm13 an13 cd13 ct13), sl13⟩) (c13 : PySem.W.codeIn K cd13 "_law_tree" = true) (k13 : PySem.W.keepIn K (.ref a__law_tree) = true)
    (n14 : PySem.W.nsIn K mainGlobals "_law_copied" = some (some (.ref a__law_copied))) (l14 : K.lookup a__law_copied = some ⟨oc14, od14, .func (PySem.W.fnOf "_law_copied" "_law_copied" (defArgs s__law_copied) (defBody s__law_copied) (defScope s__law_copied) .none kV14 dc14 pm14 an14 cd14 ct14), sl14⟩) (c14 : PySem.W.codeIn K cd14 "_law_copied" = true) (k14 : PySem.W.keepIn K (.ref a__law_copied) = true)
    (n15 : PySem.W.nsIn K mainGlobals "_law_more" = some (some (.ref a__law_more))) (l15 : K.lookup a__law_more = some ⟨oc15, od15, .func (PySem.W.fnOf "_law_more" "_law_more" (defArgs s__law_more) (defBody s__law_more) (defScope s__law_more) .none kV15 dc15 pm15 an15 cd15 ct15), sl15⟩) (c15 : PySem.W.codeIn K cd15 "_law_more" = true) (k15 : PySem.W.keepIn K (.ref a__law_more) = true)
    (n16 : PySem.W.nsIn K mainGlobals "_law_told" = some (some (.ref a__law_told))) (l16 : K.lookup a__law_told = some ⟨oc16, od16, .func (PySem.W.fnOf "_law_told" "_law_told" (defArgs s__law_told) (defBody s__law_told) (defScope s__law_told) .none kV16 dc16 pm16 an16 cd16 ct16), sl16⟩) (c16 : PySem.W.codeIn K cd16 "_law_told" = true) (k16 : PySem.W.keepIn K (.ref a__law_told) = true)
    (n17 : PySem.W.nsIn K mainGlobals "_law_is_tree" = some (some (.ref a__law_is_tree))) (l17 : K.lookup a__law_is_tree = some ⟨oc17, od17, .func (PySem.W.fnOf "_law_is_tree" "_law_is_tree" (defArgs s__law_is_tree) (defBody s__law_is_tree) (defScope s__law_is_tree) .none kV17 dc17 pm17 an17 cd17 ct17), sl17⟩) (c17 : PySem.W.codeIn K cd17 "_law_is_tree" = true) (k17 : PySem.W.keepIn K (.ref a__law_is_tree) = true)
    (n18 : PySem.W.nsIn K mainGlobals "_law_own" = some (some (.ref a__law_own))) (l18 : K.lookup a__law_own = some ⟨oc18, od18, .func (PySem.W.fnOf "_law_own" "_law_own" (defArgs s__law_own) (defBody s__law_own) (defScope s__law_own) .none kV18 dc18 pm18 an18 cd18 ct18), sl18⟩) (c18 : PySem.W.codeIn K cd18 "_law_own" = true) (k18 : PySem.W.keepIn K (.ref a__law_own) = true)
    (n19 : PySem.W.nsIn K mainGlobals "_law_spoilt" = some (some (.ref a__law_spoilt))) (l19 : K.lookup a__law_spoilt = some ⟨oc19, od19, .func (PySem.W.fnOf "_law_spoilt" "_law_spoilt" (defArgs s__law_spoilt) (defBody s__law_spoilt) (defScope s__law_spoilt) .none kV19 dc19 pm19 an19 cd19 ct19), sl19⟩) (c19 : PySem.W.codeIn K cd19 "_law_spoilt" = true) (k19 : PySem.W.keepIn K (.ref a__law_spoilt) = true)
    (n20 : PySem.W.nsIn K mainGlobals "_law_turned" = some (some (.ref a__law_turned))) (l20 : K.lookup a__law_turned = some ⟨oc20, od20, .func (PySem.W.fnOf "_law_turned" "_law_turned" (defArgs s__law_turned) (defBody s__law_turned) (defScope s__law_turned) .none kV20 dc20 pm20 an20 cd20 ct20), sl20⟩) (c20 : PySem.W.codeIn K cd20 "_law_turned" = true) (k20 : PySem.W.keepIn K (.ref a__law_turned) = true)
    (n21 : PySem.W.nsIn K mainGlobals "_law_told_right" = some (some (.ref a__law_told_right))) (l21 : K.lookup a__law_told_right = some ⟨oc21, od21, .func (PySem.W.fnOf "_law_told_right" "_law_told_right" (defArgs s__law_told_right) (defBody s__law_told_right) (defScope s__law_told_right) .none kV21 dc21 pm21 an21 cd21 ct21), sl21⟩) (c21 : PySem.W.codeIn K cd21 "_law_told_right" = true) (k21 : PySem.W.keepIn K (.ref a__law_told_right) = true)
    (n22 : PySem.W.nsIn K mainGlobals "_law_pair_right" = some (some (.ref a__law_pair_right))) (l22 : K.lookup a__law_pair_right = some ⟨oc22, od22, .func (PySem.W.fnOf "_law_pair_right" "_law_pair_right" (defArgs s__law_pair_right) (defBody s__law_pair_right) (defScope s__law_pair_right) .none kV22 dc22 pm22 an22 cd22 ct22), sl22⟩) (c22 : PySem.W.codeIn K cd22 "_law_pair_right" = true) (k22 : PySem.W.keepIn K (.ref a__law_pair_right) = true)
    (n23 : PySem.W.nsIn K mainGlobals "law" = some (some (.ref a_law))) (l23 : K.lookup a_law = some ⟨oc23, od23, .func (PySem.W.fnOf "law" "law" (defArgs s_law) (defBody s_law) (defScope s_law) .none kV23 dc23 pm23 an23 cd23 ct23), sl23⟩) (c23 : PySem.W.codeIn K cd23 "law" = true) (k23 : PySem.W.keepIn K (.ref a_law) = true)
    (z_len : PySem.W.nsIn K mainGlobals "len" = some none)
    (z_list : PySem.W.nsIn K mainGlobals "list" = some none)
    (z_range : PySem.W.nsIn K mainGlobals "range" = some none)
    (z_zip : PySem.W.nsIn K mainGlobals "zip" = some none)
    (z_enumerate : PySem.W.nsIn K mainGlobals "enumerate" = some none)
    (z_min : PySem.W.nsIn K mainGlobals "min" = some none)
    (z_sum : PySem.W.nsIn K mainGlobals "sum" = some none)
    (z_all : PySem.W.nsIn K mainGlobals "all" = some none)
    (z_isinstance : PySem.W.nsIn K mainGlobals "isinstance" = some none)
    (z_bool : PySem.W.nsIn K mainGlobals "bool" = some none)
    (c_MOST : PySem.W.nsIn K mainGlobals "MOST" = some (some (.int 300 t_MOST)))
    (c_DEEPEST : PySem.W.nsIn K mainGlobals "DEEPEST" = some (some (.int 40 t_DEEPEST)))
    (g_HeadError : PySem.W.nsIn K mainGlobals "HeadError" = some (some (.ref A_HeadError)))
    (kk_HeadError : PySem.W.keepIn K (.ref A_HeadError) = true)
    (x_HeadError : PySem.W.excIn K A_HeadError [.type "ValueError", .type "Exception", .type "BaseException", .type "object"] "ValueError.__new__" = true)
    (sb_HeadError : PySem.W.subIn K (.ref A_HeadError) (.type "BaseException") = some true)
    (tt_HeadError : PySem.W.typeIn K (.ref A_HeadError) = some (.type "type"))
    (g_BadTree : PySem.W.nsIn K mainGlobals "BadTree" = some (some (.ref A_BadTree)))
    (kk_BadTree : PySem.W.keepIn K (.ref A_BadTree) = true)
    (x_BadTree : PySem.W.excIn K A_BadTree [.type "ValueError", .type "Exception", .type "BaseException", .type "object"] "ValueError.__new__" = true)
    (sb_BadTree : PySem.W.subIn K (.ref A_BadTree) (.type "BaseException") = some true)
    (tt_BadTree : PySem.W.typeIn K (.ref A_BadTree) = some (.type "type"))
    (g_TooGreat : PySem.W.nsIn K mainGlobals "TooGreat" = some (some (.ref A_TooGreat)))
    (kk_TooGreat : PySem.W.keepIn K (.ref A_TooGreat) = true)
    (x_TooGreat : PySem.W.excIn K A_TooGreat [.type "ValueError", .type "Exception", .type "BaseException", .type "object"] "ValueError.__new__" = true)
    (sb_TooGreat : PySem.W.subIn K (.ref A_TooGreat) (.type "BaseException") = some true)
    (tt_TooGreat : PySem.W.typeIn K (.ref A_TooGreat) = some (.type "type")) :
    ∃ fd : FuncData, (∀ (s : Shared) (v : Value), BindsTo s fd ⟨[v], []⟩ [("_law_script", v)]) ∧ ∀ base : Heap, K.In base → base.Ns mainGlobals mg → FnOk l.prog w K mg base CX0 46 fa fd ["_law_script"] (spLaw K) := by
  have e := hfa.symm.trans (PySem.W.mg_of X G n23)
  cases e
  have F0 := fun_mk (st := s_is_tree) l0 c0 k0
  have F1 := fun_mk (st := s_asked_tree) l1 c1 k1
  have F2 := fun_mk (st := s_compared) l2 c2 k2
  have F3 := fun_mk (st := s_merged) l3 c3 k3
  have F4 := fun_mk (st := s_copied) l4 c4 k4
  have F5 := fun_mk (st := s_told_of) l5 c5 k5
  have F6 := fun_mk (st := s_told) l6 c6 k6
  have F7 := fun_mk (st := s_compare) l7 c7 k7
  have F8 := fun_mk (st := s_knots) l8 c8 k8
  have F9 := fun_mk (st := s_asked_great) l9 c9 k9
  have F10 := fun_mk (st := s_together) l10 c10 k10
  have F11 := fun_mk (st := s_behind) l11 c11 k11
  have F12 := fun_mk (st := s__law_number) l12 c12 k12
  have F13 := fun_mk (st := s__law_tree) l13 c13 k13
  have F14 := fun_mk (st := s__law_copied) l14 c14 k14
  have F15 := fun_mk (st := s__law_more) l15 c15 k15
  have F16 := fun_mk (st := s__law_told) l16 c16 k16
  have F17 := fun_mk (st := s__law_is_tree) l17 c17 k17
  have F18 := fun_mk (st := s__law_own) l18 c18 k18
  have F19 := fun_mk (st := s__law_spoilt) l19 c19 k19
  have F20 := fun_mk (st := s__law_turned) l20 c20 k20
  have F21 := fun_mk (st := s__law_told_right) l21 c21 k21
  have F22 := fun_mk (st := s__law_pair_right) l22 c22 k22
  have F23 := fun_mk (st := s_law) l23 c23 k23
  let T : Txt K mg := {
    a_is_tree := a_is_tree, d_is_tree := _, F_is_tree := F0, b_is_tree := (F0.binds (ps := ["thing", "depth", "left"]) fun _ _ _ _ _ _ us hl => match us, hl with | [_, _, _], _ => rfl), m_is_tree := PySem.W.mg_of X G n0, k_is_tree := k0,
    a_asked_tree := a_asked_tree, d_asked_tree := _, F_asked_tree := F1, b_asked_tree := (F1.binds (ps := ["tree"]) fun _ _ _ _ _ _ us hl => match us, hl with | [_], _ => rfl), m_asked_tree := PySem.W.mg_of X G n1, k_asked_tree := k1,
    a_compared := a_compared, d_compared := _, F_compared := F2, b_compared := (F2.binds (ps := ["one", "other"]) fun _ _ _ _ _ _ us hl => match us, hl with | [_, _], _ => rfl), m_compared := PySem.W.mg_of X G n2, k_compared := k2,
    a_merged := a_merged, d_merged := _, F_merged := F3, b_merged := (F3.binds (ps := ["one", "other"]) fun _ _ _ _ _ _ us hl => match us, hl with | [_, _], _ => rfl), m_merged := PySem.W.mg_of X G n3, k_merged := k3,
    a_copied := a_copied, d_copied := _, F_copied := F4, b_copied := (F4.binds (ps := ["tree"]) fun _ _ _ _ _ _ us hl => match us, hl with | [_], _ => rfl), m_copied := PySem.W.mg_of X G n4, k_copied := k4,
    a_told_of := a_told_of, d_told_of := _, F_told_of := F5, b_told_of := (F5.binds (ps := ["tree"]) fun _ _ _ _ _ _ us hl => match us, hl with | [_], _ => rfl), m_told_of := PySem.W.mg_of X G n5, k_told_of := k5,
    a_told := a_told, d_told := _, F_told := F6, b_told := (F6.binds (ps := ["tree"]) fun _ _ _ _ _ _ us hl => match us, hl with | [_], _ => rfl), m_told := PySem.W.mg_of X G n6, k_told := k6,
    a_compare := a_compare, d_compare := _, F_compare := F7, b_compare := (F7.binds (ps := ["one", "other"]) fun _ _ _ _ _ _ us hl => match us, hl with | [_, _], _ => rfl), m_compare := PySem.W.mg_of X G n7, k_compare := k7,
    a_knots := a_knots, d_knots := _, F_knots := F8, b_knots := (F8.binds (ps := ["tree"]) fun _ _ _ _ _ _ us hl => match us, hl with | [_], _ => rfl), m_knots := PySem.W.mg_of X G n8, k_knots := k8,
    a_asked_great := a_asked_great, d_asked_great := _, F_asked_great := F9, b_asked_great := (F9.binds (ps := ["tree"]) fun _ _ _ _ _ _ us hl => match us, hl with | [_], _ => rfl), m_asked_great := PySem.W.mg_of X G n9, k_asked_great := k9,
    a_together := a_together, d_together := _, F_together := F10, b_together := (F10.binds (ps := ["one", "other"]) fun _ _ _ _ _ _ us hl => match us, hl with | [_, _], _ => rfl), m_together := PySem.W.mg_of X G n10, k_together := k10,
    a_behind := a_behind, d_behind := _, F_behind := F11, b_behind := (F11.binds (ps := ["one", "other"]) fun _ _ _ _ _ _ us hl => match us, hl with | [_, _], _ => rfl), m_behind := PySem.W.mg_of X G n11, k_behind := k11,
    a__law_number := a__law_number, d__law_number := _, F__law_number := F12, b__law_number := (F12.binds (ps := ["_law_cell", "_law_at", "_law_whole"]) fun _ _ _ _ _ _ us hl => match us, hl with | [_, _, _], _ => rfl), m__law_number := PySem.W.mg_of X G n12, k__law_number := k12,
    a__law_tree := a__law_tree, d__law_tree := _, F__law_tree := F13, b__law_tree := (F13.binds (ps := ["_law_script", "_law_most", "_law_by"]) fun _ _ _ _ _ _ us hl => match us, hl with | [_, _, _], _ => rfl), m__law_tree := PySem.W.mg_of X G n13, k__law_tree := k13,
    a__law_copied := a__law_copied, d__law_copied := _, F__law_copied := F14, b__law_copied := (F14.binds (ps := ["_law_tree_here"]) fun _ _ _ _ _ _ us hl => match us, hl with | [_], _ => rfl), m__law_copied := PySem.W.mg_of X G n14, k__law_copied := k14,
    a__law_more := a__law_more, d__law_more := _, F__law_more := F15, b__law_more := (F15.binds (ps := ["_law_one", "_law_other"]) fun _ _ _ _ _ _ us hl => match us, hl with | [_, _], _ => rfl), m__law_more := PySem.W.mg_of X G n15, k__law_more := k15,
    a__law_told := a__law_told, d__law_told := _, F__law_told := F16, b__law_told := (F16.binds (ps := ["_law_tree_here"]) fun _ _ _ _ _ _ us hl => match us, hl with | [_], _ => rfl), m__law_told := PySem.W.mg_of X G n16, k__law_told := k16,
    a__law_is_tree := a__law_is_tree, d__law_is_tree := _, F__law_is_tree := F17, b__law_is_tree := (F17.binds (ps := ["_law_found"]) fun _ _ _ _ _ _ us hl => match us, hl with | [_], _ => rfl), m__law_is_tree := PySem.W.mg_of X G n17, k__law_is_tree := k17,
    a__law_own := a__law_own, d__law_own := _, F__law_own := F18, b__law_own := (F18.binds (ps := ["_law_tree_here", "_law_own_here"]) fun _ _ _ _ _ _ us hl => match us, hl with | [_, _], _ => rfl), m__law_own := PySem.W.mg_of X G n18, k__law_own := k18,
    a__law_spoilt := a__law_spoilt, d__law_spoilt := _, F__law_spoilt := F19, b__law_spoilt := (F19.binds (ps := ["_law_tree_here"]) fun _ _ _ _ _ _ us hl => match us, hl with | [_], _ => rfl), m__law_spoilt := PySem.W.mg_of X G n19, k__law_spoilt := k19,
    a__law_turned := a__law_turned, d__law_turned := _, F__law_turned := F20, b__law_turned := (F20.binds (ps := ["_law_tree_here"]) fun _ _ _ _ _ _ us hl => match us, hl with | [_], _ => rfl), m__law_turned := PySem.W.mg_of X G n20, k__law_turned := k20,
    a__law_told_right := a__law_told_right, d__law_told_right := _, F__law_told_right := F21, b__law_told_right := (F21.binds (ps := ["_law_tree_here"]) fun _ _ _ _ _ _ us hl => match us, hl with | [_], _ => rfl), m__law_told_right := PySem.W.mg_of X G n21, k__law_told_right := k21,
    a__law_pair_right := a__law_pair_right, d__law_pair_right := _, F__law_pair_right := F22, b__law_pair_right := (F22.binds (ps := ["_law_one", "_law_other"]) fun _ _ _ _ _ _ us hl => match us, hl with | [_, _], _ => rfl), m__law_pair_right := PySem.W.mg_of X G n22, k__law_pair_right := k22,
    a_law := fa, d_law := _, F_law := F23, b_law := (F23.binds (ps := ["_law_script"]) fun _ _ _ _ _ _ us hl => match us, hl with | [_], _ => rfl), m_law := PySem.W.mg_of X G n23, k_law := k23,
    z_len := PySem.W.mg_none_of X G z_len,
    z_list := PySem.W.mg_none_of X G z_list,
    z_range := PySem.W.mg_none_of X G z_range,
    z_zip := PySem.W.mg_none_of X G z_zip,
    z_enumerate := PySem.W.mg_none_of X G z_enumerate,
    z_min := PySem.W.mg_none_of X G z_min,
    z_sum := PySem.W.mg_none_of X G z_sum,
    z_all := PySem.W.mg_none_of X G z_all,
    z_isinstance := PySem.W.mg_none_of X G z_isinstance,
    z_bool := PySem.W.mg_none_of X G z_bool,
    t_MOST := t_MOST, c_MOST := PySem.W.mg_of X G c_MOST,
    t_DEEPEST := t_DEEPEST, c_DEEPEST := PySem.W.mg_of X G c_DEEPEST,
    A_HeadError := A_HeadError, g_HeadError := PySem.W.mg_of X G g_HeadError, k_HeadError := kk_HeadError, x_HeadError := x_HeadError, sb_HeadError := sb_HeadError, tt_HeadError := tt_HeadError,
    A_BadTree := A_BadTree, g_BadTree := PySem.W.mg_of X G g_BadTree, k_BadTree := kk_BadTree, x_BadTree := x_BadTree, sb_BadTree := sb_BadTree, tt_BadTree := tt_BadTree,
    A_TooGreat := A_TooGreat, g_TooGreat := PySem.W.mg_of X G g_TooGreat, k_TooGreat := kk_TooGreat, x_TooGreat := x_TooGreat, sb_TooGreat := sb_TooGreat, tt_TooGreat := tt_TooGreat }
  exact ⟨PySem.W.fnOf "law" "law" (defArgs s_law) (defBody s_law) (defScope s_law) .none kV23 dc23 pm23 an23 cd23 ct23, fun s v => .of_eq rfl, fun base _ _ => ok_law T⟩
theorem walk {l : PySem.W.OpenLaw} {q : Program} {loose : List Str} {XP : (Str → Option Value) → Heap → Prop} {YP : World → Heap → Prop} {d : DefRec} {K : Params → PySem.W.Frag} (hn : l.most = some 63) (hdf : d.params.defaults = [])
    (hY : ∀ (w : World) (h : Heap), YP w h → (K w.params).In h)
    (F : ∀ (w : World) (mg : Str → Option Value) (fa : Addr) (h : Heap), (K w.params).In h → h.Ns mainGlobals mg → mg d.name = some (.ref fa) →
      ∃ fd : FuncData, (∀ (s : Shared) (u : Value), BindsTo s fd ⟨[u], []⟩ [("_law_script", u)]) ∧ ∀ base : Heap, (K w.params).In base → base.Ns mainGlobals mg → FnOk l.prog w (K w.params) mg base CX0 46 fa fd ["_law_script"] (spLaw (K w.params))) :
    PySem.W.WalkO q loose XP YP l.row.toRowW d [] (fun f vs => PySem.call f vs) :=
  L2.walk_ofB (n := 63) (k := 46) (x := "_law_script") (CX := fun _ => CX0) (sp := fun w => spLaw (K w.params)) hn (by decide) hdf ⟨rfl, by decide, by decide⟩ hY F (fun _ _ a ns hl hb _ hS => ⟨a, ns, rfl, hS, hl, fun n hn => (Bits.of_bits (hb n hn)).mono (by decide), fun _ => rfl⟩) fun _ _ _ _ _ z => z
end Hg
open PySem PySem.W PyProof.Rows
set_option maxRecDepth 100000 in
set_option maxHeartbeats 0 in
theorem PySem.Challenge.cw_headsgrow_k01_whole_worths_holds : PySem.Challenge.rw_headsgrow_k01_whole_worths.Holds := by
  w_on; o_law; k_head; (case hw => w_witness2)
  k_fill
  refine Hg.walk (l := PySem.Challenge.rw_headsgrow_k01_whole_worths) rfl rfl (fun w h Y => PySem.W.kIn_of Y) ?F
  case F =>
    intro w mg fa h KX G hmg
    refine' Hg.all_mk KX G hmg ?n0 ?l0 ?c0 ?k0 ?n1 ?l1 ?c1 ?k1 ?n2 ?l2 ?c2 ?k2 ?n3 ?l3 ?c3 ?k3 ?n4 ?l4 ?c4 ?k4 ?n5 ?l5 ?c5 ?k5 ?n6 ?l6 ?c6 ?k6 ?n7 ?l7 ?c7 ?k7 ?n8 ?l8 ?c8 ?k8 ?n9 ?l9 ?c9 ?k9 ?n10 ?l10 ?c10 ?k10 ?n11 ?l11 ?c11 ?k11 ?n12 ?l12 ?c12 ?k12 ?n13 ?l13 ?c13 ?k13 ?n14 ?l14 ?c14 ?k14 ?n15 ?l15 ?c15 ?k15 ?n16 ?l16 ?c16 ?k16 ?n17 ?l17 ?c17 ?k17 ?n18 ?l18 ?c18 ?k18 ?n19 ?l19 ?c19 ?k19 ?n20 ?l20 ?c20 ?k20 ?n21 ?l21 ?c21 ?k21 ?n22 ?l22 ?c22 ?k22 ?n23 ?l23 ?c23 ?k23 ?z_len ?z_list ?z_range ?z_zip ?z_enumerate ?z_min ?z_sum ?z_all ?z_isinstance ?z_bool ?c_MOST ?c_DEEPEST ?g_HeadError ?kk_HeadError ?x_HeadError ?sb_HeadError ?tt_HeadError ?g_BadTree ?kk_BadTree ?x_BadTree ?sb_BadTree ?tt_BadTree ?g_TooGreat ?kk_TooGreat ?x_TooGreat ?sb_TooGreat ?tt_TooGreat
    (case n0 => k_is)
    (case l0 => k_is)
    (case c0 => k_is)
    (case k0 => k_is)
    (case n1 => k_is)
    (case l1 => k_is)
    (case c1 => k_is)
    (case k1 => k_is)
    (case n2 => k_is)
    (case l2 => k_is)
    (case c2 => k_is)
    (case k2 => k_is)
    (case n3 => k_is)
    (case l3 => k_is)
    (case c3 => k_is)
    (case k3 => k_is)
    (case n4 => k_is)
    (case l4 => k_is)
    (case c4 => k_is)
    (case k4 => k_is)
    (case n5 => k_is)
    (case l5 => k_is)
    (case c5 => k_is)
    (case k5 => k_is)
    (case n6 => k_is)
    (case l6 => k_is)
    (case c6 => k_is)
    (case k6 => k_is)
    (case n7 => k_is)
    (case l7 => k_is)
    (case c7 => k_is)
    (case k7 => k_is)
    (case n8 => k_is)
    (case l8 => k_is)
    (case c8 => k_is)
    (case k8 => k_is)
    (case n9 => k_is)
    (case l9 => k_is)
    (case c9 => k_is)
    (case k9 => k_is)
    (case n10 => k_is)
    (case l10 => k_is)
    (case c10 => k_is)
    (case k10 => k_is)
    (case n11 => k_is)
    (case l11 => k_is)
    (case c11 => k_is)
    (case k11 => k_is)
    (case n12 => k_is)
    (case l12 => k_is)
    (case c12 => k_is)
    (case k12 => k_is)
    (case n13 => k_is)
    (case l13 => k_is)
    (case c13 => k_is)
    (case k13 => k_is)
    (case n14 => k_is)
    (case l14 => k_is)
    (case c14 => k_is)
    (case k14 => k_is)
    (case n15 => k_is)
    (case l15 => k_is)
    (case c15 => k_is)
    (case k15 => k_is)
    (case n16 => k_is)
    (case l16 => k_is)
    (case c16 => k_is)
    (case k16 => k_is)
    (case n17 => k_is)
    (case l17 => k_is)
    (case c17 => k_is)
    (case k17 => k_is)
    (case n18 => k_is)
    (case l18 => k_is)
    (case c18 => k_is)
    (case k18 => k_is)
    (case n19 => k_is)
    (case l19 => k_is)
    (case c19 => k_is)
    (case k19 => k_is)
    (case n20 => k_is)
    (case l20 => k_is)
    (case c20 => k_is)
    (case k20 => k_is)
    (case n21 => k_is)
    (case l21 => k_is)
    (case c21 => k_is)
    (case k21 => k_is)
    (case n22 => k_is)
    (case l22 => k_is)
    (case c22 => k_is)
    (case k22 => k_is)
    (case n23 => k_is)
    (case l23 => k_is)
    (case c23 => k_is)
    (case k23 => k_is)
    (case z_len => k_is)
    (case z_list => k_is)
    (case z_range => k_is)
    (case z_zip => k_is)
    (case z_enumerate => k_is)
    (case z_min => k_is)
    (case z_sum => k_is)
    (case z_all => k_is)
    (case z_isinstance => k_is)
    (case z_bool => k_is)
    (case c_MOST => k_is)
    (case c_DEEPEST => k_is)
    (case g_HeadError => k_is)
    (case kk_HeadError => k_is)
    (case x_HeadError => k_exc)
    (case sb_HeadError => k_is)
    (case tt_HeadError => k_is)
    (case g_BadTree => k_is)
    (case kk_BadTree => k_is)
    (case x_BadTree => k_exc)
    (case sb_BadTree => k_is)
    (case tt_BadTree => k_is)
    (case g_TooGreat => k_is)
    (case kk_TooGreat => k_is)
    (case x_TooGreat => k_exc)
    (case sb_TooGreat => k_is)
    (case tt_TooGreat => k_is)
#print axioms PySem.Challenge.cw_headsgrow_k01_whole_worths_holds
