import PyProof.Rows.All
import Wide.All
import OpenK.AllK
import Wide.FinOn
import HandS.ForMost
import HandS.Exc
import HandS.TryOnly
import HandS.ExcOwn
import HandS.WordsExc
import HandS.IsInst
import HandS.ExcIs
import HandS.Deep
import HandS.Style
import HandS.More
import HandS.Walk
import HandS.Wide
import HandS.StrMore
import HandS.EndBits
import HandS.ExcCtx
import HandS.Hot
import HandS.HotCalls
import HandS.EndTab
import PySem.Challenge.RW_headsgrow_k06_whole_numbers
set_option Elab.async false
set_option linter.all false
set_option maxRecDepth 100000
set_option maxHeartbeats 4000000
/-! Plain mathematics: trees, their order, told trees. -/
namespace Hg

inductive Tt where
  | mk (bs : List Tt)

def Tt.bs : Tt → List Tt
  | .mk l => l

theorem Tt.ind {P : Tt → Prop} (h : ∀ l, (∀ x, x ∈ l → P x) → P (.mk l)) : ∀ t, P t
  | .mk l => h l fun x hx => Tt.ind h x
termination_by t => sizeOf t
decreasing_by
  have := List.sizeOf_lt_of_mem hx
  simp only [Tt.mk.sizeOf_spec]
  omega

mutual
def cmp : Tt → Tt → Int
  | .mk a, .mk b => cmpL a b
def cmpL : List Tt → List Tt → Int
  | [], b => - (b.length : Int)
  | x :: a, [] => ((x :: a).length : Int)
  | x :: a, y :: b => if cmp x y ≠ 0 then cmp x y else cmpL a b
end

mutual
def knots : Tt → Nat
  | .mk l => 1 + knotsL l
def knotsL : List Tt → Nat
  | [] => 0
  | x :: l => knots x + knotsL l
end
mutual
def depth : Tt → Nat
  | .mk l => depthL l
def depthL : List Tt → Nat
  | [] => 0
  | x :: l => max (depth x + 1) (depthL l)
end

theorem cmp_mk (a b : List Tt) : cmp (.mk a) (.mk b) = cmpL a b := by rw [cmp]
theorem cmpL_nil_nil : cmpL [] [] = 0 := by simp [cmpL]
theorem cmpL_nil (b : List Tt) : cmpL [] b = - (b.length : Int) := by rw [cmpL]
theorem cmpL_cons_nil (x : Tt) (a : List Tt) : cmpL (x :: a) [] = ((x :: a).length : Int) := by rw [cmpL]
theorem cmpL_cons (x y : Tt) (a b : List Tt) : cmpL (x :: a) (y :: b) = if cmp x y ≠ 0 then cmp x y else cmpL a b := by rw [cmpL]
theorem cmpL_nil_r : ∀ a : List Tt, cmpL a [] = (a.length : Int)
  | [] => by simp [cmpL]
  | x :: a => cmpL_cons_nil x a

theorem cmpL_self_of : ∀ (l : List Tt), (∀ x, x ∈ l → cmp x x = 0) → cmpL l l = 0
  | [], _ => cmpL_nil_nil
  | x :: l, h => by
    rw [cmpL_cons, h x List.mem_cons_self, if_neg (by simp)]
    exact cmpL_self_of l fun y hy => h y (List.mem_cons_of_mem _ hy)
theorem cmp_self (t : Tt) : cmp t t = 0 := by
  induction t using Tt.ind with
  | h l ih => rw [cmp_mk]; exact cmpL_self_of l ih

theorem cmpL_anti_of : ∀ (a b : List Tt), (∀ x, x ∈ a → ∀ y, cmp x y = - cmp y x) → cmpL a b = - cmpL b a
  | [], b, _ => by rw [cmpL_nil, cmpL_nil_r]
  | x :: a, [], _ => by rw [cmpL_nil_r, cmpL_nil]; omega
  | x :: a, y :: b, h => by
    have e := h x List.mem_cons_self y
    have ih := cmpL_anti_of a b fun z hz => h z (List.mem_cons_of_mem _ hz)
    rw [cmpL_cons, cmpL_cons]
    by_cases c : cmp x y = 0
    · rw [if_neg (by omega), if_neg (by omega)]; exact ih
    · rw [if_pos c, if_pos (by omega)]; exact e
theorem cmp_anti (x y : Tt) : cmp x y = - cmp y x := by
  induction x using Tt.ind generalizing y with
  | h l ih =>
    cases y with
    | mk b => rw [cmp_mk, cmp_mk]; exact cmpL_anti_of l b fun x hx y => ih x hx y

theorem cmpL_eq_of : ∀ (a b : List Tt), (∀ x, x ∈ a → ∀ y, cmp x y = 0 → x = y) → cmpL a b = 0 → a = b
  | [], [], _, _ => rfl
  | [], y :: b, _, e => by rw [cmpL_nil, List.length_cons] at e; omega
  | x :: a, [], _, e => by rw [cmpL_nil_r, List.length_cons] at e; omega
  | x :: a, y :: b, h, e => by
    rw [cmpL_cons] at e
    by_cases c : cmp x y = 0
    · rw [if_neg (by simp [c])] at e
      rw [h x List.mem_cons_self y c, cmpL_eq_of a b (fun z hz => h z (List.mem_cons_of_mem _ hz)) e]
    · rw [if_pos c] at e; exact absurd e c
theorem cmp_eq {x y : Tt} (e : cmp x y = 0) : x = y := by
  induction x using Tt.ind generalizing y with
  | h l ih =>
    cases y with
    | mk b =>
      rw [cmp_mk] at e
      rw [cmpL_eq_of l b (fun x hx y e => ih x hx e) e]
theorem cmp_zero {x y : Tt} : cmp x y = 0 ↔ x = y := ⟨cmp_eq, fun e => by rw [e]; exact cmp_self y⟩

/-- strictly less, transitively -/
theorem cmpL_trans_of : ∀ (a b c : List Tt), (∀ x, x ∈ a → ∀ y z, cmp x y < 0 → cmp y z < 0 → cmp x z < 0) → cmpL a b < 0 → cmpL b c < 0 → cmpL a c < 0
  | a, [], c, _, h1, _ => by rw [cmpL_nil_r] at h1; omega
  | a, y :: b, [], _, _, h2 => by rw [cmpL_nil_r] at h2; omega
  | [], y :: b, z :: c, _, _, _ => by rw [cmpL_nil, List.length_cons]; omega
  | x :: a, y :: b, z :: c, h, h1, h2 => by
    rw [cmpL_cons] at h1 h2 ⊢
    by_cases c1 : cmp x y = 0
    · have e := cmp_eq c1
      subst e
      rw [if_neg (by simp [c1])] at h1
      by_cases c2 : cmp x z = 0
      · rw [if_neg (by simp [c2])] at h2 ⊢
        exact cmpL_trans_of a b c (fun w hw => h w (List.mem_cons_of_mem _ hw)) h1 h2
      · rw [if_pos c2] at h2 ⊢; exact h2
    · rw [if_pos c1] at h1
      by_cases c2 : cmp y z = 0
      · have e := cmp_eq c2
        subst e
        rw [if_pos c1]; exact h1
      · rw [if_pos c2] at h2
        have := h x List.mem_cons_self y z h1 h2
        rw [if_pos (by omega)]; exact this
theorem cmp_lt_trans {x y z : Tt} (h1 : cmp x y < 0) (h2 : cmp y z < 0) : cmp x z < 0 := by
  induction x using Tt.ind generalizing y z with
  | h l ih =>
    cases y with
    | mk b =>
      cases z with
      | mk c =>
        rw [cmp_mk] at *
        exact cmpL_trans_of l b c (fun x hx y z a b => ih x hx a b) h1 h2
/-- x is worth at least y -/
def ge (x y : Tt) : Prop := 0 ≤ cmp x y
theorem ge_refl (x : Tt) : ge x x := by unfold ge; rw [cmp_self]; exact Int.le_refl 0
theorem ge_of_lt {x y : Tt} (h : cmp y x < 0) : ge x y := by unfold ge; rw [cmp_anti]; omega
theorem ge_total {x y : Tt} (h : ¬ ge x y) : cmp x y < 0 := by unfold ge at h; omega
theorem ge_cases {x y : Tt} (h : ge x y) : x = y ∨ cmp y x < 0 := by
  unfold ge at h
  by_cases c : cmp x y = 0
  · exact .inl (cmp_eq c)
  · right; rw [cmp_anti]; omega
theorem ge_trans {x y z : Tt} (h1 : ge x y) (h2 : ge y z) : ge x z := by
  rcases ge_cases h1 with e | l1
  · rw [e]; exact h2
  · rcases ge_cases h2 with e | l2
    · rw [← e]; exact h1
    · exact ge_of_lt (cmp_lt_trans l2 l1)
theorem ge_anti {x y : Tt} (h1 : ge x y) (h2 : ge y x) : x = y := by
  unfold ge at *
  rw [cmp_anti] at h2
  exact cmp_eq (by omega)
instance (x y : Tt) : Decidable (ge x y) := inferInstanceAs (Decidable (0 ≤ cmp x y))

/-! ### insertion, told -/
def ins (x : Tt) : List Tt → List Tt
  | [] => [x]
  | y :: l => if 0 ≤ cmp y x then y :: ins x l else x :: y :: l
mutual
def told : Tt → Tt
  | .mk l => .mk (toldL [] l)
def toldL (acc : List Tt) : List Tt → List Tt
  | [] => acc
  | b :: l => toldL (ins (told b) acc) l
end
theorem told_mk (l : List Tt) : told (.mk l) = .mk (toldL [] l) := by rw [told]
theorem toldL_nil (acc : List Tt) : toldL acc [] = acc := by rw [toldL]
theorem toldL_cons (acc : List Tt) (b : Tt) (l : List Tt) : toldL acc (b :: l) = toldL (ins (told b) acc) l := by rw [toldL]
theorem toldL_eq : ∀ (l acc : List Tt), toldL acc l = (l.map told).foldl (fun a x => ins x a) acc
  | [], acc => by rw [toldL_nil]; rfl
  | b :: l, acc => by rw [toldL_cons, toldL_eq l]; rfl
theorem toldL_append : ∀ (l m acc : List Tt), toldL acc (l ++ m) = toldL (toldL acc l) m
  | [], m, acc => by rw [toldL_nil]; rfl
  | b :: l, m, acc => by rw [List.cons_append, toldL_cons, toldL_cons, toldL_append l m]

/-- in falling turn -/
def Sd (l : List Tt) : Prop := l.Pairwise ge
theorem ins_perm (x : Tt) : ∀ l, (ins x l).Perm (x :: l)
  | [] => List.Perm.refl _
  | y :: l => by
    unfold ins
    split
    · exact ((ins_perm x l).cons y).trans (List.Perm.swap x y l)
    · exact List.Perm.refl _
theorem ins_sd (x : Tt) : ∀ l, Sd l → Sd (ins x l)
  | [], _ => by unfold Sd ins; exact List.pairwise_singleton _ _
  | y :: l, h => by
    obtain ⟨h1, h2⟩ := List.pairwise_cons.mp h
    unfold ins
    split
    · rename_i c
      refine List.pairwise_cons.mpr ⟨fun z hz => ?_, ins_sd x l h2⟩
      rcases List.mem_cons.mp ((ins_perm x l).mem_iff.mp hz) with e | hz
      · rw [e]; exact c
      · exact h1 z hz
    · rename_i c
      have g : ge x y := ge_of_lt (by omega)
      refine List.pairwise_cons.mpr ⟨fun z hz => ?_, h⟩
      rcases List.mem_cons.mp hz with e | hz
      · rw [e]; exact g
      · exact ge_trans g (h1 z hz)
theorem foldins_perm : ∀ (l acc : List Tt), (l.foldl (fun a x => ins x a) acc).Perm (acc ++ l)
  | [], acc => by simp
  | x :: l, acc => by
    rw [List.foldl_cons]
    refine (foldins_perm l _).trans ?_
    refine ((ins_perm x acc).append_right l).trans ?_
    exact (List.perm_middle (l₁ := acc) (a := x) (l₂ := l)).symm
theorem foldins_sd : ∀ (l acc : List Tt), Sd acc → Sd (l.foldl (fun a x => ins x a) acc)
  | [], _, h => h
  | x :: l, acc, h => by rw [List.foldl_cons]; exact foldins_sd l _ (ins_sd x acc h)
theorem toldL_perm (l acc : List Tt) : (toldL acc l).Perm (acc ++ l.map told) := by rw [toldL_eq]; exact foldins_perm _ _
theorem toldL_sd (l acc : List Tt) (h : Sd acc) : Sd (toldL acc l) := by rw [toldL_eq]; exact foldins_sd _ _ h
/-- two lists in falling turn of the same things are one -/
theorem sd_unique : ∀ (l m : List Tt), Sd l → Sd m → l.Perm m → l = m
  | [], m, _, _, p => (List.Perm.nil_eq p)
  | x :: l, [], _, _, p => absurd p.symm.nil_eq (by simp)
  | x :: l, y :: m, hl, hm, p => by
    obtain ⟨l1, l2⟩ := List.pairwise_cons.mp hl
    obtain ⟨m1, m2⟩ := List.pairwise_cons.mp hm
    have e : x = y := by
      have hx : x ∈ y :: m := p.mem_iff.mp List.mem_cons_self
      have hy : y ∈ x :: l := p.mem_iff.mpr List.mem_cons_self
      rcases List.mem_cons.mp hx with e | hx
      · exact e
      · rcases List.mem_cons.mp hy with e | hy
        · exact e.symm
        · exact ge_anti (l1 y hy) (m1 x hx)
    subst e
    rw [sd_unique l m l2 m2 (List.Perm.cons_inv p)]

/-- two told lists joined, as the program does it -/
def merge : List Tt → List Tt → List Tt
  | [], m => m
  | x :: l, [] => x :: l
  | x :: l, y :: m => if 0 ≤ cmp x y then x :: merge l (y :: m) else y :: merge (x :: l) m
termination_by l m => l.length + m.length
theorem merge_nil_r (l : List Tt) : merge l [] = l := by cases l <;> simp [merge]
theorem merge_perm (l m : List Tt) : (merge l m).Perm (l ++ m) := by
  fun_induction merge l m with
  | case1 m => exact List.Perm.refl _
  | case2 x l => simp
  | case3 x l y m h ih => exact ih.cons x
  | case4 x l y m h ih =>
    refine (ih.cons y).trans ?_
    exact (List.perm_middle (l₁ := x :: l) (a := y) (l₂ := m)).symm
theorem merge_sd (l m : List Tt) (hl : Sd l) (hm : Sd m) : Sd (merge l m) := by
  fun_induction merge l m with
  | case1 m => exact hm
  | case2 x l => exact hl
  | case3 x l y m h ih =>
    obtain ⟨l1, l2⟩ := List.pairwise_cons.mp hl
    refine List.pairwise_cons.mpr ⟨fun z hz => ?_, ih l2 hm⟩
    rcases List.mem_append.mp ((merge_perm l (y :: m)).mem_iff.mp hz) with hz | hz
    · exact l1 z hz
    · rcases List.mem_cons.mp hz with e | hz
      · rw [e]; exact h
      · exact ge_trans h ((List.pairwise_cons.mp hm).1 z hz)
  | case4 x l y m h ih =>
    obtain ⟨m1, m2⟩ := List.pairwise_cons.mp hm
    have g : ge y x := ge_of_lt (by omega)
    refine List.pairwise_cons.mpr ⟨fun z hz => ?_, ih hl m2⟩
    rcases List.mem_append.mp ((merge_perm (x :: l) m).mem_iff.mp hz) with hz | hz
    · rcases List.mem_cons.mp hz with e | hz
      · rw [e]; exact g
      · exact ge_trans g ((List.pairwise_cons.mp hl).1 z hz)
    · exact m1 z hz
theorem merge_one (x : Tt) (l : List Tt) : merge l [x] = ins x l := by
  induction l with
  | nil => simp [merge, ins]
  | cons y l ih =>
    unfold merge ins
    split
    · rw [ih]
    · rw [merge_nil_r]
/-- together -/
theorem merge_told (l m : List Tt) : merge (toldL [] l) (toldL [] m) = toldL [] (l ++ m) := by
  have nl : Sd [] := List.Pairwise.nil
  refine sd_unique _ _ (merge_sd _ _ (toldL_sd l [] nl) (toldL_sd m [] nl)) (toldL_sd _ [] nl) ?_
  refine (merge_perm _ _).trans ?_
  refine ((toldL_perm l []).append (toldL_perm m [])).trans ?_
  refine List.Perm.trans ?_ (toldL_perm (l ++ m) []).symm
  simp
end Hg
/-! Trees in the heap: read (TreeAt), owned (Own), made anew (New), grown (Grow). -/
namespace Hg
open PySem L2

mutual
def TreeAt (H : Hp) : V → Tt → Prop
  | v, .mk bs => ∃ a vs, v = .ref a ∧ H a = some (.lst vs) ∧ TreesAt H vs bs
def TreesAt (H : Hp) : List V → List Tt → Prop
  | vs, [] => vs = []
  | vs, b :: bs => ∃ v vs', vs = v :: vs' ∧ TreeAt H v b ∧ TreesAt H vs' bs
end
mutual
def Own (H : Hp) : V → Tt → List Addr → Prop
  | v, .mk bs, as => ∃ a vs as', v = .ref a ∧ as = a :: as' ∧ H a = some (.lst vs) ∧ Owns H vs bs as'
def Owns (H : Hp) : List V → List Tt → List Addr → Prop
  | vs, [], as => vs = [] ∧ as = []
  | vs, b :: bs, as => ∃ v vs' a1 a2, vs = v :: vs' ∧ as = a1 ++ a2 ∧ Own H v b a1 ∧ Owns H vs' bs a2
end
theorem treeAt_mk {H : Hp} {v : V} {bs : List Tt} : TreeAt H v (.mk bs) = ∃ a vs, v = .ref a ∧ H a = some (.lst vs) ∧ TreesAt H vs bs := by rw [TreeAt]
theorem treesAt_nil {H : Hp} {vs : List V} : TreesAt H vs [] = (vs = []) := by rw [TreesAt]
theorem treesAt_cons {H : Hp} {vs : List V} {b : Tt} {bs : List Tt} : TreesAt H vs (b :: bs) = ∃ v vs', vs = v :: vs' ∧ TreeAt H v b ∧ TreesAt H vs' bs := by rw [TreesAt]
theorem own_mk {H : Hp} {v : V} {bs : List Tt} {as : List Addr} : Own H v (.mk bs) as = ∃ a vs as', v = .ref a ∧ as = a :: as' ∧ H a = some (.lst vs) ∧ Owns H vs bs as' := by rw [Own]
theorem owns_nil {H : Hp} {vs : List V} {as : List Addr} : Owns H vs [] as = (vs = [] ∧ as = []) := by rw [Owns]
theorem owns_cons {H : Hp} {vs : List V} {b : Tt} {bs : List Tt} {as : List Addr} : Owns H vs (b :: bs) as = ∃ v vs' a1 a2, vs = v :: vs' ∧ as = a1 ++ a2 ∧ Own H v b a1 ∧ Owns H vs' bs a2 := by rw [Owns]

mutual
theorem TreeAt.same {H H' : Hp} (s : Same H H') : ∀ {v : V} (t : Tt), TreeAt H v t → TreeAt H' v t
  | v, .mk bs, h => by
    rw [treeAt_mk] at h ⊢
    obtain ⟨a, vs, e, h1, h2⟩ := h
    exact ⟨a, vs, e, s _ _ h1, TreesAt.same s bs h2⟩
theorem TreesAt.same {H H' : Hp} (s : Same H H') : ∀ {vs : List V} (ts : List Tt), TreesAt H vs ts → TreesAt H' vs ts
  | vs, [], h => by rw [treesAt_nil] at h ⊢; exact h
  | vs, b :: bs, h => by
    rw [treesAt_cons] at h ⊢
    obtain ⟨v, vs', e, h1, h2⟩ := h
    exact ⟨v, vs', e, TreeAt.same s b h1, TreesAt.same s bs h2⟩
end
mutual
theorem Own.at_ {H : Hp} : ∀ {v : V} (t : Tt) {as : List Addr}, Own H v t as → TreeAt H v t
  | v, .mk bs, as, h => by
    rw [own_mk] at h; rw [treeAt_mk]
    obtain ⟨a, vs, as', e, _, h1, h2⟩ := h
    exact ⟨a, vs, e, h1, Owns.at_ bs h2⟩
theorem Owns.at_ {H : Hp} : ∀ {vs : List V} (ts : List Tt) {as : List Addr}, Owns H vs ts as → TreesAt H vs ts
  | vs, [], as, h => by rw [owns_nil] at h; rw [treesAt_nil]; exact h.1
  | vs, b :: bs, as, h => by
    rw [owns_cons] at h; rw [treesAt_cons]
    obtain ⟨v, vs', a1, a2, e, _, h1, h2⟩ := h
    exact ⟨v, vs', e, Own.at_ b h1, Owns.at_ bs h2⟩
end
mutual
/-- what it owns is tracked; kept where its own places are kept -/
theorem Own.frame {H H' : Hp} : ∀ {v : V} (t : Tt) {as : List Addr}, Own H v t as → (∀ a, a ∈ as → ∀ o, H a = some o → H' a = some o) → Own H' v t as
  | v, .mk bs, as, h, k => by
    rw [own_mk] at h ⊢
    obtain ⟨a, vs, as', e, ea, h1, h2⟩ := h
    subst ea
    exact ⟨a, vs, as', e, rfl, k a List.mem_cons_self _ h1, Owns.frame bs h2 fun b hb => k b (List.mem_cons_of_mem _ hb)⟩
theorem Owns.frame {H H' : Hp} : ∀ {vs : List V} (ts : List Tt) {as : List Addr}, Owns H vs ts as → (∀ a, a ∈ as → ∀ o, H a = some o → H' a = some o) → Owns H' vs ts as
  | vs, [], as, h, _ => by rw [owns_nil] at h ⊢; exact h
  | vs, b :: bs, as, h, k => by
    rw [owns_cons] at h ⊢
    obtain ⟨v, vs', a1, a2, e, ea, h1, h2⟩ := h
    subst ea
    exact ⟨v, vs', a1, a2, e, rfl, Own.frame b h1 fun a ha => k a (List.mem_append_left _ ha), Owns.frame bs h2 fun a ha => k a (List.mem_append_right _ ha)⟩
end
mutual
theorem Own.tracked {H : Hp} : ∀ {v : V} (t : Tt) {as : List Addr}, Own H v t as → ∀ a, a ∈ as → ∃ xs, H a = some (.lst xs)
  | v, .mk bs, as, h, a, ha => by
    rw [own_mk] at h
    obtain ⟨a', vs, as', e, ea, h1, h2⟩ := h
    subst ea
    rcases List.mem_cons.mp ha with e | ha
    · rw [e]; exact ⟨vs, h1⟩
    · exact Owns.tracked bs h2 a ha
theorem Owns.tracked {H : Hp} : ∀ {vs : List V} (ts : List Tt) {as : List Addr}, Owns H vs ts as → ∀ a, a ∈ as → ∃ xs, H a = some (.lst xs)
  | vs, [], as, h, a, ha => by rw [owns_nil] at h; rw [h.2] at ha; cases ha
  | vs, b :: bs, as, h, a, ha => by
    rw [owns_cons] at h
    obtain ⟨v, vs', a1, a2, e, ea, h1, h2⟩ := h
    subst ea
    rcases List.mem_append.mp ha with ha | ha
    · exact Own.tracked b h1 a ha
    · exact Owns.tracked bs h2 a ha
end
theorem TreesAt.len {H : Hp} : ∀ {vs : List V} {ts : List Tt}, TreesAt H vs ts → vs.length = ts.length
  | vs, [], h => by rw [treesAt_nil] at h; rw [h]; rfl
  | vs, b :: bs, h => by
    rw [treesAt_cons] at h
    obtain ⟨v, vs', e, _, h2⟩ := h
    rw [e, List.length_cons, List.length_cons, TreesAt.len h2]
theorem TreesAt.get {H : Hp} : ∀ {vs : List V} {ts : List Tt} {i : Nat} {v : V}, TreesAt H vs ts → vs[i]? = some v → ∃ t, ts[i]? = some t ∧ TreeAt H v t
  | vs, [], i, v, h, e => by rw [treesAt_nil] at h; rw [h] at e; cases e
  | vs, b :: bs, i, v, h, e => by
    rw [treesAt_cons] at h
    obtain ⟨w, vs', ev, h1, h2⟩ := h
    subst ev
    cases i with
    | zero =>
      have e' : w = v := Option.some.inj (by simpa using e)
      exact ⟨b, rfl, e' ▸ h1⟩
    | succ i =>
      obtain ⟨t, e1, h3⟩ := TreesAt.get h2 (i := i) (v := v) (by simpa using e)
      exact ⟨t, by simpa using e1, h3⟩
theorem TreesAt.get' {H : Hp} {vs : List V} {ts : List Tt} {i : Nat} {t : Tt} (h : TreesAt H vs ts) (e : ts[i]? = some t) : ∃ v, vs[i]? = some v ∧ TreeAt H v t := by
  have hl := h.len
  obtain ⟨hi, _⟩ := List.getElem?_eq_some_iff.mp e
  have hv : i < vs.length := by omega
  obtain ⟨t', e', h'⟩ := h.get (List.getElem?_eq_getElem hv)
  rw [e] at e'
  cases e'
  exact ⟨_, List.getElem?_eq_getElem hv, h'⟩
theorem TreesAt.append {H : Hp} : ∀ {vs ws : List V} {ts us : List Tt}, TreesAt H vs ts → TreesAt H ws us → TreesAt H (vs ++ ws) (ts ++ us)
  | vs, ws, [], us, h, k => by rw [treesAt_nil] at h; rw [h]; exact k
  | vs, ws, b :: bs, us, h, k => by
    rw [treesAt_cons] at h
    obtain ⟨w, vs', ev, h1, h2⟩ := h
    subst ev
    rw [List.cons_append, List.cons_append, treesAt_cons]
    exact ⟨w, _, rfl, h1, TreesAt.append h2 k⟩
theorem TreesAt.one {H : Hp} {v : V} {t : Tt} (h : TreeAt H v t) : TreesAt H [v] [t] := by
  rw [treesAt_cons]; exact ⟨v, [], rfl, h, by rw [treesAt_nil]⟩
theorem Owns.append {H : Hp} : ∀ {vs ws : List V} {ts us : List Tt} {as bs : List Addr}, Owns H vs ts as → Owns H ws us bs → Owns H (vs ++ ws) (ts ++ us) (as ++ bs)
  | vs, ws, [], us, as, bs, h, k => by rw [owns_nil] at h; rw [h.1, h.2]; exact k
  | vs, ws, b :: ts, us, as, bs, h, k => by
    rw [owns_cons] at h
    obtain ⟨w, vs', a1, a2, ev, ea, h1, h2⟩ := h
    subst ev ea
    rw [List.cons_append, List.cons_append, owns_cons]
    exact ⟨w, _, a1, a2 ++ bs, rfl, List.append_assoc _ _ _, h1, Owns.append h2 k⟩
theorem Owns.one {H : Hp} {v : V} {t : Tt} {as : List Addr} (h : Own H v t as) : Owns H [v] [t] as := by
  rw [owns_cons]; exact ⟨v, [], as, [], rfl, by simp, h, by rw [owns_nil]; exact ⟨rfl, rfl⟩⟩
theorem Owns.split {H : Hp} : ∀ {ts us : List Tt} {vs : List V} {as : List Addr}, Owns H vs (ts ++ us) as → ∃ v1 v2 a1 a2, vs = v1 ++ v2 ∧ as = a1 ++ a2 ∧ Owns H v1 ts a1 ∧ Owns H v2 us a2
  | [], us, vs, as, h => ⟨[], vs, [], as, rfl, rfl, by rw [owns_nil]; exact ⟨rfl, rfl⟩, h⟩
  | b :: ts, us, vs, as, h => by
    rw [List.cons_append, owns_cons] at h
    obtain ⟨w, vs', a1, a2, ev, ea, h1, h2⟩ := h
    obtain ⟨v1, v2, b1, b2, e1, e2, k1, k2⟩ := Owns.split h2
    subst ev ea e1 e2
    refine ⟨w :: v1, v2, a1 ++ b1, b2, rfl, (List.append_assoc _ _ _).symm, ?_, k2⟩
    rw [owns_cons]
    exact ⟨w, v1, a1, b1, rfl, rfl, h1, k1⟩
theorem Owns.len {H : Hp} {vs : List V} {ts : List Tt} {as : List Addr} (h : Owns H vs ts as) : vs.length = ts.length := (Owns.at_ ts h).len

/-- a tree made anew behind H: all its lists are new, none stands in it twice -/
def New (H H' : Hp) (v : V) (t : Tt) : Prop := Same H H' ∧ ∃ as, Own H' v t as ∧ as.Nodup ∧ ∀ a, a ∈ as → H a = none
theorem New.at_ {H H' : Hp} {v : V} {t : Tt} (n : New H H' v t) : TreeAt H' v t := let ⟨_, _, o, _⟩ := n; Own.at_ t o
theorem New.of {H0 H H' : Hp} {v : V} {t : Tt} (n : New H H' v t) (s : Same H0 H) : New H0 H' v t := by
  obtain ⟨k, as, o, nd, f⟩ := n
  exact ⟨s.trans k, as, o, nd, fun a ha => s.free (f a ha)⟩
theorem New.step {H H' H2 : Hp} {v : V} {t : Tt} (n : New H H' v t) (s : Same H' H2) : New H H2 v t := by
  obtain ⟨k, as, o, nd, f⟩ := n
  exact ⟨k.trans s, as, Own.frame t o fun a _ u e => s a u e, nd, f⟩
theorem same_new {H : Hp} {p : Addr} (h : H p = none) (o : HO) : Same H (upd H p o) := fun b u q => by rw [upd_ne (ne_of_none q h)]; exact q

/-- a new list D that is filled with new trees -/
def Grow (H H' : Hp) (D : Addr) (ts : List Tt) : Prop := Same H H' ∧ H D = none ∧ ∃ acc as, H' D = some (.lst acc) ∧ Owns H' acc ts as ∧ (D :: as).Nodup ∧ ∀ a, a ∈ as → H a = none
theorem Grow.start {H : Hp} {D : Addr} (h : H D = none) : Grow H (upd H D (.lst [])) D [] :=
  ⟨same_new h _, h, [], [], upd_same, by rw [owns_nil]; exact ⟨rfl, rfl⟩, List.nodup_cons.mpr ⟨by simp, List.nodup_nil⟩, fun a ha => by cases ha⟩
theorem Grow.step {H H' H2 : Hp} {D : Addr} {ts : List Tt} (g : Grow H H' D ts) (s : Same H' H2) : Grow H H2 D ts := by
  obtain ⟨k, hD, acc, as, h1, h2, nd, f⟩ := g
  exact ⟨k.trans s, hD, acc, as, s _ _ h1, Owns.frame ts h2 fun a _ u e => s a u e, nd, f⟩
theorem Grow.same {H H' : Hp} {D : Addr} {ts : List Tt} (g : Grow H H' D ts) : Same H H' := g.1
theorem Grow.done {H H' : Hp} {D : Addr} {ts : List Tt} (g : Grow H H' D ts) : New H H' (.ref D) (.mk ts) := by
  obtain ⟨k, hD, acc, as, h1, h2, nd, f⟩ := g
  refine ⟨k, D :: as, by rw [own_mk]; exact ⟨D, acc, as, rfl, rfl, h1, h2⟩, nd, fun a ha => ?_⟩
  rcases List.mem_cons.mp ha with e | ha
  · rw [e]; exact hD
  · exact f a ha
theorem Grow.at_ {H H' : Hp} {D : Addr} {ts : List Tt} (g : Grow H H' D ts) : ∃ acc, H' D = some (.lst acc) ∧ TreesAt H' acc ts ∧ acc.length = ts.length := by
  obtain ⟨k, hD, acc, as, h1, h2, nd, f⟩ := g
  exact ⟨acc, h1, Owns.at_ ts h2, h2.len⟩
/-- a new tree put in at a place -/
theorem Grow.put {H H' H2 : Hp} {D : Addr} {l r : List Tt} {v : V} {t : Tt} (g : Grow H H' D (l ++ r)) (n : New H' H2 v t) :
    ∃ av rv, H2 D = some (.lst (av ++ rv)) ∧ av.length = l.length ∧ rv.length = r.length ∧ Grow H (upd H2 D (.lst (av ++ v :: rv))) D (l ++ t :: r) := by
  obtain ⟨k, hD, acc, as, h1, h2, nd, f⟩ := g
  obtain ⟨s, bs, o, nb, fb⟩ := n
  obtain ⟨av, rv, a1, a2, e1, e2, k1, k2⟩ := h2.split
  subst e1 e2
  have tr1 := Owns.tracked l k1
  have tr2 := Owns.tracked r k2
  have hDb : D ∉ bs := fun hb => by have := fb D hb; rw [h1] at this; cases this
  obtain ⟨nD, nas⟩ := List.nodup_cons.mp nd
  have dis1 : ∀ a, a ∈ a1 → a ∉ bs := fun a ha hb => by
    obtain ⟨xs, q⟩ := tr1 a ha; rw [fb a hb] at q; cases q
  have dis2 : ∀ a, a ∈ a2 → a ∉ bs := fun a ha hb => by
    obtain ⟨xs, q⟩ := tr2 a ha; rw [fb a hb] at q; cases q
  have keep : ∀ a, a ≠ D → ∀ u, H2 a = some u → upd H2 D (.lst (av ++ v :: rv)) a = some u := fun a ha u q => by rw [upd_ne ha]; exact q
  have ne1 : ∀ a, a ∈ a1 → a ≠ D := fun a ha e => nD (by rw [← e]; exact List.mem_append_left _ ha)
  have ne2 : ∀ a, a ∈ a2 → a ≠ D := fun a ha e => nD (by rw [← e]; exact List.mem_append_right _ ha)
  refine ⟨av, rv, s _ _ h1, k1.len, k2.len, ⟨fun b u q => ?_, hD, av ++ v :: rv, a1 ++ (bs ++ a2), upd_same, ?_, ?_, fun a ha => ?_⟩⟩
  · rw [upd_ne (ne_of_none q hD)]; exact s _ _ (k _ _ q)
  · refine Owns.append (Owns.frame l k1 fun a ha u q => keep a (ne1 a ha) u (s _ _ q)) ?_
    rw [owns_cons]
    refine ⟨v, rv, bs, a2, rfl, rfl, Own.frame t o fun a ha u q => keep a (fun e => hDb (e ▸ ha)) u q, Owns.frame r k2 fun a ha u q => keep a (ne2 a ha) u (s _ _ q)⟩
  · obtain ⟨n1, n2, n3⟩ := List.nodup_append.mp nas
    refine List.nodup_cons.mpr ⟨fun h => ?_, List.nodup_append.mpr ⟨n1, List.nodup_append.mpr ⟨nb, n2, fun a ha b hb e => dis2 b hb (e ▸ ha)⟩, fun a ha b hb e => ?_⟩⟩
    · rcases List.mem_append.mp h with h | h
      · exact ne1 D h rfl
      · rcases List.mem_append.mp h with h | h
        · exact hDb h
        · exact ne2 D h rfl
    · rcases List.mem_append.mp hb with hb | hb
      · exact dis1 a ha (e ▸ hb)
      · exact n3 a ha b hb e
  · rcases List.mem_append.mp ha with ha | ha
    · exact f a (List.mem_append_left _ ha)
    · rcases List.mem_append.mp ha with ha | ha
      · exact k.free (fb a ha)
      · exact f a (List.mem_append_right _ ha)
theorem Grow.more {H H' H2 : Hp} {D : Addr} {ts : List Tt} {v : V} {t : Tt} (g : Grow H H' D ts) (n : New H' H2 v t) :
    ∃ acc, H2 D = some (.lst acc) ∧ acc.length = ts.length ∧ Grow H (upd H2 D (.lst (acc ++ [v]))) D (ts ++ [t]) := by
  have g' : Grow H H' D (ts ++ []) := by rw [List.append_nil]; exact g
  obtain ⟨av, rv, h1, h2, h3, h4⟩ := g'.put n
  have e : rv = [] := List.length_eq_zero_iff.mp h3
  subst e
  rw [List.append_nil] at h1
  exact ⟨av, h1, h2, h4⟩

/-- no knot has too many branches for a list -/
def lim : Nat := 200000
mutual
def fit : Tt → Prop
  | .mk l => l.length ≤ lim ∧ fitL l
def fitL : List Tt → Prop
  | [] => True
  | x :: l => fit x ∧ fitL l
end
theorem fit_mk {l : List Tt} : fit (.mk l) = (l.length ≤ lim ∧ fitL l) := by rw [fit]
theorem fitL_iff : ∀ {l : List Tt}, fitL l ↔ ∀ x, x ∈ l → fit x
  | [] => by simp [fitL]
  | x :: l => by
    rw [fitL, fitL_iff (l := l)]
    simp
theorem fit_bs {l : List Tt} (h : fit (.mk l)) {x : Tt} (hx : x ∈ l) : fit x := by rw [fit_mk] at h; exact fitL_iff.mp h.2 x hx
theorem fit_len {l : List Tt} (h : fit (.mk l)) : l.length ≤ lim := by rw [fit_mk] at h; exact h.1
theorem lim_line {n : Nat} (h : n ≤ lim) : n < sizeLine := Nat.lt_of_le_of_lt h (by decide)
end Hg
/-! Own helpers over the hand layer: joining ways. -/
namespace Hg
open PySem L2
/-- a test's outcome told once, then what follows -/
theorem cut_t {t : TT} {σ : St} {H : Hp} {Q : Bool → Hp → Prop} (R : Bool → Hp → Prop) (h : ∀ Q' : Bool → Hp → Prop, (∀ b H', R b H' → Q' b H') → t σ H Q') (k : ∀ b H', R b H' → Q b H') : t σ H Q := h Q k
theorem cut_if {c : TT} {t u : TS} {D : Ends} {σ : St} {H : Hp} (R : Bool → Hp → Prop) (h : ∀ Q' : Bool → Hp → Prop, (∀ b H', R b H' → Q' b H') → c σ H Q') (k : ∀ b H', R b H' → if b = true then t D σ H' else u D σ H') : tIfS c t u D σ H := h _ k
theorem cut_e {t : TE} {σ : St} {H : Hp} {Q : VK} (R : V → Hp → Prop) (h : ∀ Q' : VK, (∀ v H', R v H' → Q' v H') → t σ H Q') (k : ∀ v H', R v H' → Q v H') : t σ H Q := h Q k
/-- a statement whose ways come together -/
def tCut (t u : TS) : TS := fun D σ H => ∃ N : St → Hp → Prop, t { D with nx := N } σ H ∧ ∀ σ' H', N σ' H' → u D σ' H'
theorem pss_cut2 {X : Cx} {st : Stmt} {rest : List Stmt} {t u : TS} (h1 : PS X st t) (h2 : PSs X rest u) : PSs X (st :: rest) (tCut t u) := by
  refine ⟨fun pins s σ H D I h => ?_⟩
  obtain ⟨N, h, k⟩ := h
  refine wpAny_execs_cons (thn (h1.run pins s σ H { D with nx := N } I h) fun f s1 q => ?_)
  cases f with
  | next =>
    obtain ⟨σ', H', I', q⟩ := q
    exact h2.run pins s1 σ' H' D I' (k σ' H' q)
  | ret v => exact q
  | brk => exact q
  | cont => exact q
def rLenS (K : PySem.W.Frag) : List V → Hp → VK → Prop := fun xs H Q => ∃ p ys, xs = [.ref p] ∧ (SqL K H p ys ∨ SqT K H p ys) ∧ Q (.int ys.length) H
theorem call_len_seqK {X : Cx} : CallR X (.builtin "len") (rLenS X.K) := call_len_seq
def rListOf (K : PySem.W.Frag) : List V → Hp → VK → Prop := fun xs H Q => ∃ p ys, xs = [.ref p] ∧ (SqL K H p ys ∨ SqT K H p ys) ∧ ∀ l, H l = none → Q (.ref l) (upd H l (.lst ys))
theorem call_list_ofK {X : Cx} : CallR X (.type "list") (rListOf X.K) := call_list_of
/-- * of great ints -/
def CMulX (i j : Int) : Prop := i.natAbs.log2 + j.natAbs.log2 < 100000000
theorem CMulX.ok {i j : Int} (h : CMulX i j) : IntMulOk i j := by
  have b : ∀ x : Int, Builtin.Int.intBits x ≤ x.natAbs.log2 + 1 := fun x => by
    unfold Builtin.Int.intBits
    split <;> omega
  have h1 := b i
  have h2 := b j
  have h3 : i.natAbs.log2 + j.natAbs.log2 < 100000000 := h
  have e : bitsLine = 134217728 := by decide
  unfold IntMulOk
  intro z
  rw [Bool.and_eq_true] at z
  have z2 := z.2
  unfold Builtin.Int.intTooBig at z2
  have z3 := of_decide_eq_true z2
  rw [e] at z3
  omega
theorem op_mulX {X : Cx} : OpR X (binaryOp .Mult) (rI CMulX fun i j => .int (i * j)) := opI fun _ _ _ _ _ _ _ hc q => PyProof.Rows.mul_int q hc.ok
theorem log2_le {n k : Nat} (h : n < 2 ^ k) : n.log2 ≤ k := by
  by_cases h0 : n = 0
  · subst h0; simp
  · exact Nat.le_of_lt ((Nat.log2_lt h0).mpr h)
/-- from bounds by powers of two -/
theorem mulX {i j : Int} {a b : Nat} (ha : i.natAbs < 2 ^ a) (hb : j.natAbs < 2 ^ b) (h : a + b < 100000000) : CMulX i j := by
  have x := log2_le ha
  have y := log2_le hb
  unfold CMulX
  omega
end Hg
/-! Things that may be no trees. -/
namespace Hg
open PySem L2
inductive Th where
  | no
  | li (xs : List Th)
mutual
def isT : Th → Nat → Int → Bool × Int
  | .no, _, L => (false, L)
  | .li xs, d, L => if 40 < d ∨ L < 1 then (false, L) else ((isTl xs (d + 1) (L - 1)).1.all id, (isTl xs (d + 1) (L - 1)).2)
def isTl : List Th → Nat → Int → List Bool × Int
  | [], _, L => ([], L)
  | x :: xs, d, L => ((isT x d L).1 :: (isTl xs d (isT x d L).2).1, (isTl xs d (isT x d L).2).2)
end
theorem isT_no {d : Nat} {L : Int} : isT .no d L = (false, L) := by rw [isT]
theorem isT_li {xs : List Th} {d : Nat} {L : Int} : isT (.li xs) d L = if 40 < d ∨ L < 1 then (false, L) else ((isTl xs (d + 1) (L - 1)).1.all id, (isTl xs (d + 1) (L - 1)).2) := by rw [isT]
theorem isTl_nil {d : Nat} {L : Int} : isTl [] d L = ([], L) := by rw [isTl]
theorem isTl_cons {x : Th} {xs : List Th} {d : Nat} {L : Int} : isTl (x :: xs) d L = ((isT x d L).1 :: (isTl xs d (isT x d L).2).1, (isTl xs d (isT x d L).2).2) := by rw [isTl]
theorem isTl_snoc : ∀ (xs : List Th) (x : Th) (d : Nat) (L : Int), isTl (xs ++ [x]) d L = ((isTl xs d L).1 ++ [(isT x d (isTl xs d L).2).1], (isT x d (isTl xs d L).2).2)
  | [], x, d, L => by rw [List.nil_append, isTl_cons, isTl_nil, isTl_nil]; rfl
  | y :: xs, x, d, L => by rw [List.cons_append, isTl_cons, isTl_snoc xs, isTl_cons]; rfl
theorem isTl_len : ∀ (xs : List Th) (d : Nat) (L : Int), (isTl xs d L).1.length = xs.length
  | [], d, L => by rw [isTl_nil]; rfl
  | y :: xs, d, L => by rw [isTl_cons, List.length_cons, List.length_cons, isTl_len xs]
/-- no list -/
inductive Leaf (H : Hp) : V → Prop where
  | non : Leaf H .non
  | bl (b : Bool) : Leaf H (.bl b)
  | int (i : Int) : Leaf H (.int i)
  | str (x : Str) : Leaf H (.str x)
  | tup {a : Addr} {xs : List V} (e : H a = some (.tup xs)) : Leaf H (.ref a)
  | dK {a : Addr} {kvs : List (Key × V)} (e : H a = some (.dK kvs)) : Leaf H (.ref a)
theorem Leaf.same {H H' : Hp} {v : V} (s : Same H H') (h : Leaf H v) : Leaf H' v := by
  cases h with
  | non => exact .non
  | bl b => exact .bl b
  | int i => exact .int i
  | str x => exact .str x
  | tup e => exact .tup (s _ _ e)
  | dK e => exact .dK (s _ _ e)
theorem Leaf.isi {K : PySem.W.Frag} {H : Hp} {v : V} (h : Leaf H v) : ∃ t, TyX K H v t ∧ PySem.W.kitOne K t (.type "list") = some false := by
  cases h with
  | non => exact ⟨_, .base .non, kit_ty (by decide +kernel)⟩
  | bl b => exact ⟨_, .base (.bl b), kit_ty (by decide +kernel)⟩
  | int i => exact ⟨_, .base (.int i), kit_ty (by decide +kernel)⟩
  | str x => exact ⟨_, .base (.str x), kit_ty (by decide +kernel)⟩
  | tup e => exact ⟨_, .base (.tup e), kit_ty (by decide +kernel)⟩
  | dK e => exact ⟨_, .base (.dK e), kit_ty (by decide +kernel)⟩
theorem list_isi {K : PySem.W.Frag} {H : Hp} {a : Addr} {xs : List V} (h : H a = some (.lst xs)) : TyX K H (.ref a) (.type "list") ∧ PySem.W.kitOne K (.type "list") (.type "list") = some true :=
  ⟨.base (.lst h), kit_ty (by decide +kernel)⟩
mutual
def ThAt (H : Hp) : V → Th → Prop
  | v, .no => Leaf H v
  | v, .li bs => ∃ a vs, v = .ref a ∧ H a = some (.lst vs) ∧ ThsAt H vs bs
def ThsAt (H : Hp) : List V → List Th → Prop
  | vs, [] => vs = []
  | vs, b :: bs => ∃ v vs', vs = v :: vs' ∧ ThAt H v b ∧ ThsAt H vs' bs
end
theorem thAt_no {H : Hp} {v : V} : ThAt H v .no = Leaf H v := by rw [ThAt]
theorem thAt_li {H : Hp} {v : V} {bs : List Th} : ThAt H v (.li bs) = ∃ a vs, v = .ref a ∧ H a = some (.lst vs) ∧ ThsAt H vs bs := by rw [ThAt]
theorem thsAt_nil {H : Hp} {vs : List V} : ThsAt H vs [] = (vs = []) := by rw [ThsAt]
theorem thsAt_cons {H : Hp} {vs : List V} {b : Th} {bs : List Th} : ThsAt H vs (b :: bs) = ∃ v vs', vs = v :: vs' ∧ ThAt H v b ∧ ThsAt H vs' bs := by rw [ThsAt]
mutual
theorem ThAt.same {H H' : Hp} (s : Same H H') : ∀ {v : V} (t : Th), ThAt H v t → ThAt H' v t
  | v, .no, h => by rw [thAt_no] at h ⊢; exact h.same s
  | v, .li bs, h => by
    rw [thAt_li] at h ⊢
    obtain ⟨a, vs, e, h1, h2⟩ := h
    exact ⟨a, vs, e, s _ _ h1, ThsAt.same s bs h2⟩
theorem ThsAt.same {H H' : Hp} (s : Same H H') : ∀ {vs : List V} (ts : List Th), ThsAt H vs ts → ThsAt H' vs ts
  | vs, [], h => by rw [thsAt_nil] at h ⊢; exact h
  | vs, b :: bs, h => by
    rw [thsAt_cons] at h ⊢
    obtain ⟨v, vs', e, h1, h2⟩ := h
    exact ⟨v, vs', e, ThAt.same s b h1, ThsAt.same s bs h2⟩
end
theorem ThsAt.len {H : Hp} : ∀ {vs : List V} {ts : List Th}, ThsAt H vs ts → vs.length = ts.length
  | vs, [], h => by rw [thsAt_nil] at h; rw [h]; rfl
  | vs, b :: bs, h => by
    rw [thsAt_cons] at h
    obtain ⟨v, vs', e, _, h2⟩ := h
    rw [e, List.length_cons, List.length_cons, ThsAt.len h2]
theorem ThsAt.get {H : Hp} : ∀ {vs : List V} {ts : List Th} {i : Nat} {v : V}, ThsAt H vs ts → vs[i]? = some v → ∃ t, ts[i]? = some t ∧ ThAt H v t
  | vs, [], i, v, h, e => by rw [thsAt_nil] at h; rw [h] at e; cases e
  | vs, b :: bs, i, v, h, e => by
    rw [thsAt_cons] at h
    obtain ⟨w, vs', ev, h1, h2⟩ := h
    subst ev
    cases i with
    | zero =>
      have e' : w = v := Option.some.inj (by simpa using e)
      exact ⟨b, rfl, e' ▸ h1⟩
    | succ i =>
      obtain ⟨t, e1, h3⟩ := ThsAt.get h2 (i := i) (v := v) (by simpa using e)
      exact ⟨t, by simpa using e1, h3⟩
mutual
def toTh : Tt → Th
  | .mk l => .li (toThL l)
def toThL : List Tt → List Th
  | [] => []
  | x :: l => toTh x :: toThL l
end
mutual
theorem TreeAt.th {H : Hp} : ∀ {v : V} (t : Tt), TreeAt H v t → ThAt H v (toTh t)
  | v, .mk bs, h => by
    rw [treeAt_mk] at h
    obtain ⟨a, vs, e, h1, h2⟩ := h
    rw [toTh, thAt_li]
    exact ⟨a, vs, e, h1, TreesAt.th bs h2⟩
theorem TreesAt.th {H : Hp} : ∀ {vs : List V} (ts : List Tt), TreesAt H vs ts → ThsAt H vs (toThL ts)
  | vs, [], h => by rw [treesAt_nil] at h; rw [toThL, thsAt_nil]; exact h
  | vs, b :: bs, h => by
    rw [treesAt_cons] at h
    obtain ⟨v, vs', e, h1, h2⟩ := h
    rw [toThL, thsAt_cons]
    exact ⟨v, vs', e, TreeAt.th b h1, TreesAt.th bs h2⟩
end
theorem knots_pos (t : Tt) : 1 ≤ knots t := by cases t with | mk l => rw [knots]; omega
theorem depth_mk_le {l : List Tt} {d n : Nat} (h : depth (.mk l) + d ≤ n) : ∀ x, x ∈ l → depth x + (d + 1) ≤ n := fun x hx => by
  rw [depth] at h
  have : ∀ {l : List Tt} {x : Tt}, x ∈ l → depth x + 1 ≤ depthL l := by
    intro l
    induction l with
    | nil => intro x h; cases h
    | cons y l ih =>
      intro x h
      rw [depthL]
      rcases List.mem_cons.mp h with e | h
      · rw [e]; omega
      · have := ih h; omega
  have := this hx
  omega
mutual
theorem isT_tree : ∀ (t : Tt) (d : Nat) (L : Int), depth t + d ≤ 40 → (knots t : Int) ≤ L → isT (toTh t) d L = (true, L - knots t)
  | .mk l, d, L, hd, hk => by
    have hk' : ((1 + knotsL l : Nat) : Int) ≤ L := by rw [knots] at hk; exact hk
    have ih := isT_trees l (d + 1) (L - 1) (depth_mk_le hd) (by omega)
    rw [toTh, isT_li, if_neg (by omega), ih, knots]
    refine Prod.ext ?_ ?_
    · show (List.replicate l.length true).all id = true
      simp
    · show L - 1 - (knotsL l : Int) = L - ((1 + knotsL l : Nat) : Int)
      omega
theorem isT_trees : ∀ (l : List Tt) (d : Nat) (L : Int), (∀ x, x ∈ l → depth x + d ≤ 40) → (knotsL l : Int) ≤ L → isTl (toThL l) d L = (List.replicate l.length true, L - knotsL l)
  | [], d, L, _, _ => by rw [toThL, isTl_nil, knotsL]; simp
  | x :: l, d, L, hd, hk => by
    have hk' : ((knots x + knotsL l : Nat) : Int) ≤ L := by rw [knotsL] at hk; exact hk
    rw [toThL, isTl_cons, isT_tree x d L (hd x List.mem_cons_self) (by omega), isT_trees l d (L - knots x) (fun y hy => hd y (List.mem_cons_of_mem _ hy)) (by omega), knotsL]
    refine Prod.ext (by simp [List.replicate_succ]) ?_
    show L - (knots x : Int) - (knotsL l : Int) = L - ((knots x + knotsL l : Nat) : Int)
    omega
end
mutual
def fitTh : Th → Prop
  | .no => True
  | .li l => l.length ≤ lim ∧ fitThL l
def fitThL : List Th → Prop
  | [] => True
  | x :: l => fitTh x ∧ fitThL l
end
theorem fitTh_li {l : List Th} : fitTh (.li l) = (l.length ≤ lim ∧ fitThL l) := by rw [fitTh]
theorem fitThL_mem : ∀ {l : List Th}, fitThL l → ∀ x, x ∈ l → fitTh x
  | [], _, x, h => by cases h
  | y :: l, k, x, h => by
    rw [fitThL] at k
    rcases List.mem_cons.mp h with e | h
    · rw [e]; exact k.1
    · exact fitThL_mem k.2 x h
theorem toThL_len : ∀ l : List Tt, (toThL l).length = l.length
  | [] => by rw [toThL]; rfl
  | x :: l => by rw [toThL, List.length_cons, List.length_cons, toThL_len l]
mutual
theorem fit_toTh : ∀ t : Tt, fit t → fitTh (toTh t)
  | .mk l, h => by rw [fit_mk] at h; rw [toTh, fitTh_li, toThL_len]; exact ⟨h.1, fit_toThL l h.2⟩
theorem fit_toThL : ∀ l : List Tt, fitL l → fitThL (toThL l)
  | [], _ => by rw [toThL, fitThL]; trivial
  | x :: l, h => by rw [fitL] at h; rw [toThL, fitThL]; exact ⟨fit_toTh x h.1, fit_toThL l h.2⟩
end
theorem knotsL_len : ∀ l : List Tt, l.length ≤ knotsL l
  | [] => by simp [knotsL]
  | x :: l => by rw [knotsL, List.length_cons]; have := knotsL_len l; have := knots_pos x; omega
theorem knotsL_mem : ∀ {l : List Tt} {x : Tt}, x ∈ l → knots x ≤ knotsL l
  | y :: l, x, h => by
    rw [knotsL]
    rcases List.mem_cons.mp h with e | h
    · rw [e]; omega
    · have := knotsL_mem h; omega
theorem fit_of_knots {n : Nat} (hn : n ≤ lim) : ∀ (t : Tt), knots t ≤ n → fit t := by
  intro t
  induction t using Tt.ind with
  | h l ih =>
    intro h
    rw [knots] at h
    rw [fit_mk]
    have := knotsL_len l
    refine ⟨by omega, fitL_iff.mpr fun x hx => ih x hx ?_⟩
    have := knotsL_mem hx
    omega
/-- a tree to be asked with -/
def okT (t : Tt) : Prop := knots t ≤ 300 ∧ depth t ≤ 40
theorem okT.fit {t : Tt} (h : okT t) : fit t := fit_of_knots (n := 300) (by decide) t h.1
theorem okT.dp {t : Tt} (h : okT t) : depth t < 41 := Nat.lt_succ_of_le h.2
/-- no tree to be asked with -/
def Bad (H : Hp) (v : V) : Prop := ∃ th, ThAt H v th ∧ fitTh th ∧ (isT th 0 300).1 = false
theorem Bad.same {H H' : Hp} {v : V} (s : Same H H') (h : Bad H v) : Bad H' v := let ⟨th, a, b, c⟩ := h; ⟨th, ThAt.same s th a, b, c⟩
end Hg
/-! Trees as data: == of trees. -/
namespace Hg
open PySem L2
mutual
def toD : Tt → PyData
  | .mk l => .list (toDL l)
def toDL : List Tt → List PyData
  | [] => []
  | x :: l => toD x :: toDL l
end
theorem toD_mk (l : List Tt) : toD (.mk l) = .list (toDL l) := by rw [toD]
mutual
theorem TreeAt.dp {K : PySem.W.Frag} {H : Hp} : ∀ {v : V} (t : Tt), TreeAt H v t → Dp K H v (toD t)
  | v, .mk bs, h => by
    rw [treeAt_mk] at h
    obtain ⟨a, vs, e, h1, h2⟩ := h
    subst e
    rw [toD]
    exact .lst (SqL.of h1) (TreesAt.dp bs h2)
theorem TreesAt.dp {K : PySem.W.Frag} {H : Hp} : ∀ {vs : List V} (ts : List Tt), TreesAt H vs ts → DpAll K H vs (toDL ts)
  | vs, [], h => by rw [treesAt_nil] at h; subst h; rw [toDL]; exact .nil
  | vs, b :: bs, h => by
    rw [treesAt_cons] at h
    obtain ⟨v, vs', e, h1, h2⟩ := h
    subst e
    rw [toDL]
    exact .cons (TreeAt.dp b h1) (TreesAt.dp bs h2)
end
mutual
theorem toD_lay : ∀ t : Tt, (toD t).canLay0 = true
  | .mk l => by rw [toD, PyData.canLay0]; exact toDL_lay l
theorem toDL_lay : ∀ l : List Tt, PyData.canLayAll0 (toDL l) = true
  | [] => by rw [toDL, PyData.canLayAll0]
  | x :: l => by rw [toDL, PyData.canLayAll0, toD_lay x, toDL_lay l]; rfl
end
mutual
theorem toD_depth : ∀ t : Tt, (toD t).depth = depth t + 1
  | .mk l => by rw [toD, PyData.depth, toDL_depth l, depth]
theorem toDL_depth : ∀ l : List Tt, PyData.depthAll (toDL l) = depthL l
  | [] => by rw [toDL, PyData.depthAll, depthL]
  | x :: l => by rw [toDL, PyData.depthAll, toD_depth x, toDL_depth l, depthL]
end
theorem shaped_tree {t : Tt} (h : depth t ≤ 63) : SeqAt.shaped (toD t) = true := by
  show ((toD t).canLay0 && decide ((toD t).depth ≤ 64)) = true
  rw [toD_lay, toD_depth, Bool.true_and]
  exact decide_eq_true (by omega)
mutual
theorem eqv_tree : ∀ t s : Tt, PyData.eqv (toD t) (toD s) = true ↔ t = s
  | .mk l, .mk m => by
    rw [toD, toD, PyData.eqv]
    rw [eqv_trees l m]
    constructor
    · intro e; rw [e]
    · intro e; injection e
theorem eqv_trees : ∀ l m : List Tt, PyData.eqvAll (toDL l) (toDL m) = true ↔ l = m
  | [], [] => by simp [toDL, PyData.eqvAll]
  | [], y :: m => by simp [toDL, PyData.eqvAll]
  | x :: l, [] => by simp [toDL, PyData.eqvAll]
  | x :: l, y :: m => by
    rw [toDL, toDL, PyData.eqvAll, Bool.and_eq_true, eqv_tree x y, eqv_trees l m]
    constructor
    · rintro ⟨e1, e2⟩; rw [e1, e2]
    · intro e; injection e with e1 e2; exact ⟨e1, e2⟩
end
instance : DecidableEq Tt := fun a b => decidable_of_iff (PyData.eqv (toD a) (toD b) = true) (eqv_tree a b)
theorem eqv_dec (t s : Tt) : PyData.eqv (toD t) (toD s) = decide (t = s) := by
  by_cases h : t = s
  · rw [decide_eq_true h]; exact (eqv_tree t s).mpr h
  · rw [decide_eq_false h]
    exact Bool.eq_false_iff.mpr fun e => h ((eqv_tree t s).mp e)
/-- == of two trees -/
theorem eq_trees {K : PySem.W.Frag} {H : Hp} {v u : V} {t s : Tt} {Q : VK} (h1 : TreeAt H v t) (h2 : TreeAt H u s) (d1 : depth t ≤ 63) (d2 : depth s ≤ 63) (q : Q (.bl (decide (t = s))) H) : rEqD K v u H Q :=
  ⟨_, _, TreeAt.dp t h1, TreeAt.dp s h2, shaped_tree d1, shaped_tree d2, by rw [eqv_dec]; exact q⟩
theorem ne_trees {K : PySem.W.Frag} {H : Hp} {v u : V} {t s : Tt} {Q : VK} (h1 : TreeAt H v t) (h2 : TreeAt H u s) (d1 : depth t ≤ 63) (d2 : depth s ≤ 63) (q : Q (.bl (!decide (t = s))) H) : rNeD K v u H Q :=
  ⟨_, _, TreeAt.dp t h1, TreeAt.dp s h2, shaped_tree d1, shaped_tree d2, by rw [eqv_dec]; exact q⟩
theorem nil_tree {H : Hp} {p : Addr} (h : H p = some (.lst [])) : TreeAt H (.ref p) (.mk []) := by rw [treeAt_mk]; exact ⟨p, [], rfl, h, by rw [treesAt_nil]⟩
end Hg
/-! Lists of whole numbers as data. -/
namespace Hg
open PySem L2
theorem dpInts {K : PySem.W.Frag} {H : Hp} : ∀ ns : List Int, DpAll K H (ns.map V.int) (ns.map PyData.int)
  | [] => .nil
  | n :: ns => .cons (.int n) (dpInts ns)
theorem intsLay : ∀ ns : List Int, PyData.canLayAll0 (ns.map PyData.int) = true
  | [] => by rw [List.map_nil, PyData.canLayAll0]
  | n :: ns => by rw [List.map_cons, PyData.canLayAll0, PyData.canLay0, intsLay ns]; rfl
theorem intsDepth : ∀ ns : List Int, PyData.depthAll (ns.map PyData.int) = 0
  | [] => by rw [List.map_nil, PyData.depthAll]
  | n :: ns => by rw [List.map_cons, PyData.depthAll, PyData.depth, intsDepth ns]; rfl
theorem intsShaped (ns : List Int) : SeqAt.shaped (.list (ns.map PyData.int)) = true := by
  show (PyData.canLay0 (.list (ns.map PyData.int)) && decide (PyData.depth (.list (ns.map PyData.int)) ≤ 64)) = true
  rw [PyData.canLay0, PyData.depth, intsLay, intsDepth]
  rfl
theorem intsEqv : ∀ ns ms : List Int, PyData.eqvAll (ns.map PyData.int) (ms.map PyData.int) = decide (ns = ms)
  | [], [] => by simp [PyData.eqvAll]
  | [], m :: ms => by simp [PyData.eqvAll]
  | n :: ns, [] => by simp [PyData.eqvAll]
  | n :: ns, m :: ms => by
    rw [List.map_cons, List.map_cons, PyData.eqvAll, PyData.eqv, intsEqv ns ms]
    by_cases h : n = m
    · subst h; simp
    · simp [h]
/-- == and != of two lists of ints -/
theorem eq_ints {K : PySem.W.Frag} {H : Hp} {a b : Addr} {ns ms : List Int} {Q : VK} (h1 : SqL K H a (ns.map V.int)) (h2 : SqL K H b (ms.map V.int)) (q : Q (.bl (decide (ns = ms))) H) : rEqD K (.ref a) (.ref b) H Q :=
  ⟨_, _, .lst h1 (dpInts ns), .lst h2 (dpInts ms), intsShaped ns, intsShaped ms, by rw [PyData.eqv, intsEqv]; exact q⟩
theorem ne_ints {K : PySem.W.Frag} {H : Hp} {a b : Addr} {ns ms : List Int} {Q : VK} (h1 : SqL K H a (ns.map V.int)) (h2 : SqL K H b (ms.map V.int)) (q : Q (.bl (!decide (ns = ms))) H) : rNeD K (.ref a) (.ref b) H Q :=
  ⟨_, _, .lst h1 (dpInts ns), .lst h2 (dpInts ms), intsShaped ns, intsShaped ms, by rw [PyData.eqv, intsEqv]; exact q⟩
end Hg
/-! A tree in the heap that gets one more branch; bits of numbers. -/
namespace Hg
open PySem L2
theorem knotsL_append : ∀ l m : List Tt, knotsL (l ++ m) = knotsL l + knotsL m
  | [], m => by rw [List.nil_append, knotsL]; omega
  | x :: l, m => by rw [List.cons_append, knotsL, knotsL, knotsL_append l m]; omega
theorem depthL_append : ∀ l m : List Tt, depthL (l ++ m) = max (depthL l) (depthL m)
  | [], m => by rw [List.nil_append, depthL]; omega
  | x :: l, m => by rw [List.cons_append, depthL, depthL, depthL_append l m]; omega
theorem Owns.splitV {H : Hp} : ∀ {v1 v2 : List V} {ts : List Tt} {as : List Addr}, Owns H (v1 ++ v2) ts as → ∃ t1 t2 a1 a2, ts = t1 ++ t2 ∧ as = a1 ++ a2 ∧ Owns H v1 t1 a1 ∧ Owns H v2 t2 a2
  | [], v2, ts, as, h => ⟨[], ts, [], as, rfl, rfl, by rw [owns_nil]; exact ⟨rfl, rfl⟩, h⟩
  | v :: v1, v2, [], as, h => by rw [owns_nil] at h; cases h.1
  | v :: v1, v2, t :: ts, as, h => by
    rw [owns_cons] at h
    obtain ⟨v', vs', a1, a2, e, rfl, o1, o2⟩ := h
    rw [List.cons_append] at e
    injection e with e1 e2
    subst e1 e2
    obtain ⟨t1, t2, b1, b2, rfl, rfl, k1, k2⟩ := Owns.splitV o2
    exact ⟨t :: t1, t2, a1 ++ b1, b2, rfl, (List.append_assoc _ _ _).symm, by rw [owns_cons]; exact ⟨v, v1, a1, b1, rfl, rfl, o1, k1⟩, k2⟩
section
variable {H H' : Hp} {a p : Addr} {l r : List V}
mutual
theorem Own.graft (hk : ∀ b, b ≠ a → ∀ o, H b = some o → H' b = some o) (ha : H a = some (.lst (l ++ r))) (ha' : H' a = some (.lst (l ++ .ref p :: r))) (hp : H' p = some (.lst [])) :
    ∀ {v : V} (t : Tt) {as : List Addr}, Own H v t as → as.Nodup → a ∈ as → ∃ t' as', Own H' v t' as' ∧ as'.Perm (p :: as) ∧ knots t' = knots t + 1 ∧ depth t' ≤ depth t + 1
  | v, .mk bs, as, h, nd, hm => by
    rw [own_mk] at h
    obtain ⟨b, vs, as', rfl, rfl, hb, ow⟩ := h
    obtain ⟨nb, nd'⟩ := List.nodup_cons.mp nd
    by_cases e : b = a
    · subst e
      rw [hb] at ha
      injection ha with ha
      injection ha with ha
      subst ha
      obtain ⟨t1, t2, a1, a2, rfl, rfl, o1, o2⟩ := ow.splitV
      refine ⟨.mk (t1 ++ .mk [] :: t2), b :: (a1 ++ (p :: a2)), ?_, ?_, ?_, ?_⟩
      · rw [own_mk]
        refine ⟨b, _, _, rfl, rfl, ha', Owns.append (Owns.frame _ o1 fun c hc o q => hk c (fun z => nb (by rw [← z]; exact List.mem_append_left _ hc)) o q) ?_⟩
        rw [owns_cons]
        refine ⟨.ref p, r, [p], a2, rfl, rfl, ?_, Owns.frame _ o2 fun c hc o q => hk c (fun z => nb (by rw [← z]; exact List.mem_append_right _ hc)) o q⟩
        rw [own_mk]
        exact ⟨p, [], [], rfl, rfl, hp, by rw [owns_nil]; exact ⟨rfl, rfl⟩⟩
      · refine (List.Perm.cons b (List.perm_middle (l₁ := a1) (a := p) (l₂ := a2))).trans (List.Perm.swap p b _)
      · rw [knots, knots, knotsL_append, knotsL_append, knotsL, knots, knotsL]; omega
      · rw [depth, depth, depthL_append, depthL_append, depthL, depth, depthL]; omega
    · have hm' : a ∈ as' := by
        rcases List.mem_cons.mp hm with z | z
        · exact absurd z.symm e
        · exact z
      obtain ⟨ts', as2, o, pm, k, d⟩ := Owns.graft hk ha ha' hp bs ow nd' hm'
      refine ⟨.mk ts', b :: as2, ?_, (pm.cons b).trans (List.Perm.swap p b _), ?_, ?_⟩
      · rw [own_mk]; exact ⟨b, vs, as2, rfl, rfl, hk b e _ hb, o⟩
      · rw [knots, knots, k]; omega
      · rw [depth, depth]; exact d
theorem Owns.graft (hk : ∀ b, b ≠ a → ∀ o, H b = some o → H' b = some o) (ha : H a = some (.lst (l ++ r))) (ha' : H' a = some (.lst (l ++ .ref p :: r))) (hp : H' p = some (.lst [])) :
    ∀ {vs : List V} (ts : List Tt) {as : List Addr}, Owns H vs ts as → as.Nodup → a ∈ as → ∃ ts' as', Owns H' vs ts' as' ∧ as'.Perm (p :: as) ∧ knotsL ts' = knotsL ts + 1 ∧ depthL ts' ≤ depthL ts + 1
  | vs, [], as, h, nd, hm => by rw [owns_nil] at h; rw [h.2] at hm; cases hm
  | vs, b :: bs, as, h, nd, hm => by
    rw [owns_cons] at h
    obtain ⟨v, vs', a1, a2, rfl, rfl, o1, o2⟩ := h
    obtain ⟨n1, n2, dis⟩ := List.nodup_append.mp nd
    by_cases hm1 : a ∈ a1
    · obtain ⟨t', as1, o, pm, k, d⟩ := Own.graft hk ha ha' hp b o1 n1 hm1
      refine ⟨t' :: bs, as1 ++ a2, ?_, (pm.append_right a2), ?_, ?_⟩
      · rw [owns_cons]
        exact ⟨v, vs', as1, a2, rfl, rfl, o, Owns.frame _ o2 fun c hc u q => hk c (fun z => dis a hm1 c hc z.symm) u q⟩
      · rw [knotsL, knotsL, k]; omega
      · rw [depthL, depthL]; omega
    · have hm2 : a ∈ a2 := by
        rcases List.mem_append.mp hm with z | z
        · exact absurd z hm1
        · exact z
      obtain ⟨ts', as2, o, pm, k, d⟩ := Owns.graft hk ha ha' hp bs o2 n2 hm2
      refine ⟨b :: ts', a1 ++ as2, ?_, ?_, ?_, ?_⟩
      · rw [owns_cons]
        exact ⟨v, vs', a1, as2, rfl, rfl, Own.frame _ o1 fun c hc u q => hk c (fun z => dis c hc a hm2 z) u q, o⟩
      · exact (pm.append_left a1).trans List.perm_middle
      · rw [knotsL, knotsL, k]; omega
      · rw [depthL, depthL]; omega
end
end
/-- fewer than k bits -/
def Bits (i : Int) (k : Nat) : Prop := i.natAbs < 2 ^ k
theorem Bits.mono {i : Int} {a b : Nat} (h : Bits i a) (l : a ≤ b) : Bits i b := Nat.lt_of_lt_of_le h (Nat.pow_le_pow_right (by decide) l)
theorem Bits.add {i j : Int} {a : Nat} (h : Bits i a) (k : Bits j a) : Bits (i + j) (a + 1) := by
  unfold Bits at *
  have := Int.natAbs_add_le i j
  rw [Nat.pow_succ]
  omega
theorem Bits.mul {i j : Int} {a b : Nat} (h : Bits i a) (k : Bits j b) : Bits (i * j) (a + b) := by
  unfold Bits at *
  rw [Int.natAbs_mul, Nat.pow_add]
  exact Nat.mul_lt_mul'' h k
theorem Bits.le {i j : Int} {a : Nat} (h : Bits j a) (l : i.natAbs ≤ j.natAbs) : Bits i a := Nat.lt_of_le_of_lt l h
theorem Bits.div {i j : Int} {a : Nat} (h : Bits i a) : Bits (i / j) a := h.le (Int.natAbs_ediv_le_natAbs i j)
theorem Bits.lt {i : Int} {n a : Nat} (h0 : 0 ≤ i) (h : i < n) (hn : n ≤ 2 ^ a) : Bits i a := by
  unfold Bits
  omega
theorem Bits.mulX {i j : Int} {a b : Nat} (h : Bits i a) (k : Bits j b) (l : a + b < 100000000) : CMulX i j := Hg.mulX h k l
theorem Bits.of_bits {i : Int} {k : Nat} (h : Builtin.Int.intBits i ≤ k) : Bits i k := by
  unfold Bits
  unfold Builtin.Int.intBits at h
  by_cases h0 : i = 0
  · subst h0
    exact Nat.pos_of_neZero (2 ^ k)
  · have h1 : (i == 0) = false := by simpa using h0
    rw [h1, if_neg Bool.false_ne_true] at h
    have h2 : i.natAbs ≠ 0 := by omega
    exact Nat.lt_of_lt_of_le ((Nat.log2_lt h2).mp (Nat.lt_succ_self _)) (Nat.pow_le_pow_right (by decide) h)
end Hg
/-! Written trees. -/
namespace Hg
open PySem L2
def LitE (te : TE) (t : Tt) : Prop := ∀ (σ : St) (H : Hp) (Q : VK), (∀ H' v, Same H H' → TreeAt H' v t → Q v H') → te σ H Q
def LitA (ta : TA) (ts : List Tt) : Prop := ∀ (σ : St) (H : Hp) (Q : List V → Hp → Prop), (∀ H' vs, Same H H' → TreesAt H' vs ts → Q vs H') → ta σ H Q
theorem lit_nil : LitA tNil [] := fun σ H Q h => h H [] (Same.refl H) (by rw [treesAt_nil])
theorem treesAt_c {H : Hp} {v : V} {vs : List V} {t : Tt} {ts : List Tt} (h : TreeAt H v t) (k : TreesAt H vs ts) : TreesAt H (v :: vs) (t :: ts) := by
  rw [treesAt_cons]; exact ⟨v, vs, rfl, h, k⟩
theorem lit_cons {te : TE} {ta : TA} {t : Tt} {ts : List Tt} (h : LitE te t) (k : LitA ta ts) : LitA (tCons te ta) (t :: ts) := fun σ H Q q =>
  h σ H _ fun H1 v s1 h1 => k σ H1 _ fun H2 vs s2 h2 => q H2 (v :: vs) (s1.trans s2) (treesAt_c (TreeAt.same s2 t h1) h2)
theorem lit_lst {ta : TA} {ts : List Tt} (k : LitA ta ts) (hl : ts.length ≤ lim := by decide) : LitE (tLst ta) (.mk ts) := fun σ H Q q =>
  k σ H _ fun H1 vs s1 h1 => ⟨Nat.le_of_lt (lim_line (by rw [h1.len]; exact hl)), fun p np => q _ _ (s1.trans (same_new np _)) (by
    rw [treeAt_mk]; exact ⟨p, vs, rfl, upd_same, TreesAt.same (same_new np _) ts h1⟩)⟩
theorem lit0 : LitE (tLst tNil) (.mk []) := lit_lst lit_nil
end Hg
/-! any(list of truths) while an exception is handled (its context None); defs that raise, by L2N. -/
namespace Hg
open PySem PySem.Spec PyProof.Rows L2
theorem pyNext_list_end_hot {prog : Program} {w : World} {A : Around} {E : Value → Shared → Prop} {s : Shared} {it l x1 : Addr} {i : Nat} {items : Array Value} {Q : Option Value → Shared → Prop} (hot : HotX.HotAt A x1 s.heap)
    (hit : s.heap.IsListIter it l i) (hl : s.heap.IsList l items) (hx : items[i]? = none) (hne : x1 ≠ it)
    (hQ : ∀ h', (∀ b o, b ≠ it → s.heap.get? b = some o → h'.get? b = some o) → Q none { s with heap := h' }) : wpAny (model prog w) A (pyNext (.ref it)) Q E s := by
  obtain ⟨hh, o1, vs1, h1, d1, c1⟩ := hot
  obtain ⟨o, ho, hc, hd⟩ := id hit
  obtain ⟨ol, hol, _, nl, hdl⟩ := hl
  unfold pyNext
  refine wpAny_bind (wpAny_attempt (wpAny_callSpecial?_slot (name := Str.ofString "__next__") hit.typeIs slot_listiter_next
    (wpAny_call_entry slot_listiter_next hit.typeIs entry_listiter_next ?_ (args_listiter_next _))))
  show wpAny _ _ (field (.ref it) 0 >>= _) _ _ s
  refine wpAny_bind (wpAny_field ho hd (x := .ref l) rfl ?_)
  show wpAny _ _ (if (Value.ref l == Value.none) = true then _ else _) _ _ s
  rw [if_neg (show ¬ ((Value.ref l == Value.none) = true) from Bool.false_ne_true)]
  show wpAny _ _ (field (.ref it) 1 >>= _) _ _ s
  refine wpAny_bind (wpAny_field ho hd (x := .int i 0) rfl ?_)
  show wpAny _ _ (seqItems? (.ref l) >>= _) _ _ s
  refine wpAny_bind (wpAny_seqItems hol hdl ?_)
  simp only [Int.toNat_natCast, hx]
  refine wpAny_bind (wpAny_rule (wpAny_bind (wpAny_setField ho hd (by simp) ?_)))
  show wpAny _ _ (newExc (.type "StopIteration") [] >>= _) _ _ _
  refine wpAny_bind ?_
  simp only [newExc, newTuple]
  refine wpAny_bind (wpAny_newObj_type ?_ (by size_fits))
  refine wpAny_bind (m := firstArgMember _ _) (wpAny_of_eq (a := Value.none) (by first | rfl | (simp only [firstArgMember]; rfl)) ?_)
  refine wpAny_newObj_type ?_ (by size_fits)
  have k1 : ∀ (b : Addr) (o' : Obj), b ≠ it → s.heap.get? b = some o' → (s.heap.update it (Obj.mapFields (·.setIfInBounds 0 Value.none))).get? b = some o' := fun b o' hb e => by
    rw [Heap.get?_update_other _ _ (Ne.symm hb)]; exact e
  have h1' := k1 x1 o1 hne h1
  refine HotX.raiseNew_hot ⟨hh, o1, vs1, Heap.get?_push_of_some _ (Heap.get?_push_of_some _ h1'), d1, c1⟩ (Nat.ne_of_lt (Heap.lt_size (Heap.get?_push_of_some _ h1'))) (Heap.get?_push_size _ rfl) rfl (by first | (simp; done) | (simp; omega) | (simp only [Array.size_append]; simp; omega)) ?_
  refine wpAny_bind (wpAny_isInstance (T := "StopIteration") (b := true) ⟨_, Heap.get?_update_self _ (Heap.get?_push_size _ rfl) rfl, rfl⟩ isSubtype_stop ?_)
  refine wpAny_pure (hQ _ fun b o' hb e => ?_)
  rw [Heap.get?_update_other _ _ (Nat.ne_of_gt (Heap.lt_size (Heap.get?_push_of_some _ (k1 b o' hb e))))]
  exact Heap.get?_push_of_some _ (Heap.get?_push_of_some _ (k1 b o' hb e))
end Hg
namespace Hg
open PySem PySem.Spec PyProof.Rows L2
/-- a list walked while x1 is handled, whose context is None -/
theorem walks_hot {prog : Program} {w : World} {A : Around} {x1 : Addr} (hh : A.handled = some (.ref x1)) (I ax : Addr) (hne : ax ≠ I) (hx : x1 ≠ I) (items : Array Value) :
    Walks prog w A I [I, ax, x1] [I] items.size (fun i v => items[i]? = some v) (fun i h => (h.IsListIter I ax i ∧ h.IsList ax items) ∧ ∃ (o : Obj) (vs : Array Value), h.get? x1 = some o ∧ o.data = .fields vs ∧ vs[2]? = some .none) where
  sub := fun b hb => by simp at hb; simp [hb]
  frame := fun _ _ _ st hk => by
    obtain ⟨⟨s1, s2⟩, o, vs, h1, h2⟩ := st
    exact ⟨⟨s1.at fun o e => hk I (by simp) o e, s2.at fun o e => hk ax (by simp) o e⟩, o, vs, hk x1 (by simp) o h1, h2⟩
  item := fun i s Q E hi st hQ => by
    obtain ⟨st, o, vs, h1, h2⟩ := st
    refine wpAny_pyNext_list_item st.1 st.2 (x := items[i]) (by simp [hi]) fun h' hit' hs' => ?_
    exact hQ _ h' s.toks (by simp [hi]) ⟨⟨hit', st.2.extBut hs'.extBut hne⟩, o, vs, hs'.extBut x1 o hx h1, h2⟩ fun b o hb e => hs'.extBut b o (fun h => hb (by simp [h])) e
  done := fun s Q E st hQ => by
    obtain ⟨st, o, vs, h1, h2⟩ := st
    exact pyNext_list_end_hot ⟨hh, o, vs, h1, h2⟩ st.1 st.2 (by simp) hx fun h' he' => hQ h' s.toks fun b o hb e => he' b o (fun h => hb (by simp [h])) e
  self := fun _ _ _ _ st hQ => wpAny_pyIter_listiter st.1.1 hQ
/-- any(list of truths) within an except suite -/
theorem call_any_hot {X : Cx} {a : Addr} {oe : Obj} {cls : Value} {d : Option Addr} {pn : List (Addr × Obj)} (hz : L2N.Zn cls d oe) (hf : ∃ vs, oe.data = .fields vs) :
    CallR (X.suite a ((a, oe) :: pn)) (.builtin "any") (rAny X.K) := by
  intro pins s σ H vs us Q I r h
  obtain ⟨b, bs, rfl, hs, q⟩ := h
  obtain ⟨its, rv, hl, _⟩ := I.list hs
  rw [Vals.ref1 r]
  have hb := rv.bls
  obtain ⟨hget, _⟩ := I.pin (a, oe) (List.mem_append.mpr (.inl List.mem_cons_self))
  obtain ⟨fs, hfs⟩ := hf
  have hctx := hz.2.2 fs hfs
  have na : a ≠ s.heap.objs.size := Nat.ne_of_lt (Heap.lt_size hget)
  refine call_any_walk (iter_any hl.isList fun s₂ e2 st hne => ?_)
  subst e2
  refine ⟨_, _, _, _, _, _, _, rfl, walks_hot (A := (X.suite a ((a, oe) :: pn)).A.in1) (x1 := a) rfl _ b hne na its.toArray, ⟨st, oe, fs, Heap.get?_push_of_some _ hget, hfs, hctx⟩, truth_bools hb, fun h' tk hk => ?_⟩
  refine ⟨.bl _, H, I.kept fun c o eo => hk c o (fun hmem => ?_) (Heap.get?_push_of_some _ eo), ?_, q⟩
  · rcases List.mem_cons.mp hmem with e1 | hmem
    · exact absurd (e1 ▸ Heap.lt_size eo) (Nat.lt_irrefl _)
    · cases hmem
  · show Value.bool _ = Value.bool _
    rw [← L2.any_range, hb, List.size_toArray, List.length_map]
theorem passLN {X : Cx} : Passes (L2N.CX X.prog X.w) X E0 := fun _ _ _ _ _ _ _ h => by
  obtain ⟨_, _, _, _, _, _, _, _, _, _, _, _, z⟩ := h
  exact z.elim
theorem takesN0 {X : Cx} : L2N.Takes X (fun _ _ _ _ => False) := fun _ _ x => by
  obtain ⟨_, _, _, _, _, _, _, _, _, _, _, _, _, _, _, _, z⟩ := x
  exact z.elim
section
variable {P : Program} {w : World} {K : PySem.W.Frag} {mg : Str → Option Value} {base : Heap}
/-- a def that may raise -/
theorem okN {x qual : Str} {st : Stmt} {f : Addr} {fd : FuncData} {N ps : List Str} {k : Nat} {sp : Sp} (F : Fun K x qual st f fd) (S : FnScope N ps (defScope st)) (len : ∀ vs H Q E, sp vs H Q E → vs.length = ps.length)
    (hbody : ∀ (cdv : Value) (A : Around) (outer : List Env) (s : Shared) (H : Hp) (vs : List V) (Q : VK) (E : XK), Room k (A.deeper (envOfC qual (defScope st) s.heap.objs.size f cdv)) → sp vs H Q E →
      ∃ t, PSs (cxOf (L2N.CX P w) P w K mg base N qual (defScope st) f cdv A outer s H E) (defBody st) t ∧ t { nx := fun _ H' => Q .non H', rt := Q } (start N vs) H) : FnOk P w K mg base (L2N.CX P w) (k + 1) f fd ps sp := by
  obtain ⟨oc, od, kV, doc, pm, an, cdv, ct, osl, rfl, lk, hcd⟩ := F.ex
  exact fn_of lk hcd S len fun A outer s H vs Q E hr hsp => hbody cdv A outer s H vs Q E hr hsp
end
end Hg
/-! isinstance of a caught error whose class is told by what is known; str * int. -/
namespace Hg
open PySem L2
def rIsEx (K : PySem.W.Frag) (a : Addr) (cls : Value) (d : Option Addr) : List V → Hp → VK → Prop := fun xs H Q => ∃ (D : Addr) (c : V) (cv : Value) (b : Bool), cls = .ref D ∧ d = none ∧ ExcC K D ∧ xs = [.ref a, c] ∧ (∀ u, RelV c u → u = cv) ∧ PySem.W.kitOne K (.ref D) cv = some b ∧ Q (.bl b) H
theorem call_isEx {X : Cx} {a : Addr} {oe : Obj} {cls : Value} {d : Option Addr} {pn : List (Addr × Obj)} (hz : L2N.Zn cls d oe) (hf : ∃ vs, oe.data = .fields vs) :
    CallR (X.suite a ((a, oe) :: pn)) (.builtin "isinstance") (rIsEx X.K a cls d) := by
  intro pins s σ H xs us Q I r h
  obtain ⟨D, c, cv, b, rfl, rfl, C, e1, e2, e3, q⟩ := h
  exact call_isE C hz.zc hf pins s σ H xs us Q I r ⟨c, cv, b, e1, e2, e3, q⟩
theorem kit_mk {K : PySem.W.Frag} {D C : Addr} {b : Bool} (i : PySem.W.isClsIn K C = true) (t : PySem.W.typeIn K (.ref C) = some (.type "type")) (s : PySem.W.subIn K (.ref D) (.ref C) = some b) (d : PySem.W.subIn K (.ref D) (.ref D) = some true) : PySem.W.kitOne K (.ref D) (.ref C) = some b := by
  unfold PySem.W.kitOne
  by_cases h : D = C
  · subst h
    rw [d] at s
    rw [if_pos (by simp)]
    exact s
  · rw [if_neg (by simpa using h)]
    unfold PySem.W.kitCls
    unfold PySem.W.isClsIn at i
    have e : ((PySem.W.clsIn K C).isSome && PySem.W.typeIn K (.ref C) == some (.type "type")) = true := by rw [i, t]; rfl
    show (if ((PySem.W.clsIn K C).isSome && PySem.W.typeIn K (.ref C) == some (.type "type")) = true then PySem.W.subIn K (.ref D) (.ref C) else none) = _
    rw [if_pos e]
    exact s
theorem kit_mkT {K : PySem.W.Frag} {D : Addr} {T : String} {b : Bool} (i : PySem.W.kitMeta T = true) (s : PySem.W.subIn K (.ref D) (.type T) = some b) : PySem.W.kitOne K (.ref D) (.type T) = some b := by
  unfold PySem.W.kitOne
  rw [if_neg (by simp)]
  show (if PySem.W.kitMeta T = true then PySem.W.subIn K (.ref D) (.type T) else none) = _
  rw [if_pos i]
  exact s
/-- text * int -/
def rRepS : R2 := fun x y H Q => ∃ z k, x = .str z ∧ y = .int k ∧ MulOk z k ∧ Q (.str (Txt.mul z k)) H
theorem op_repS {X : Cx} : OpR X (binaryOp .Mult) rRepS := by
  intro pins s σ H x y v u Q I rx ry h
  obtain ⟨z, k, rfl, rfl, hok, q⟩ := h
  obtain ⟨t, rfl⟩ := rx
  obtain ⟨t', rfl⟩ := ry
  exact PySem.SB.mul hok fun t' k => ⟨.str _, H, I.tok k, ⟨t', rfl⟩, q⟩
end Hg
/-! Trees as texts of brackets (40, 41). -/
namespace Hg
open PySem L2
mutual
def txt : Tt → List Nat
  | .mk l => txtL l
def txtL : List Tt → List Nat
  | [] => []
  | x :: l => 40 :: (txt x ++ 41 :: txtL l)
end
theorem txt_mk (l : List Tt) : txt (.mk l) = txtL l := by rw [txt]
theorem txtL_nil : txtL [] = [] := by rw [txtL]
theorem txtL_cons (x : Tt) (l : List Tt) : txtL (x :: l) = 40 :: (txt x ++ 41 :: txtL l) := by rw [txtL]
theorem txtL_append : ∀ l m : List Tt, txtL (l ++ m) = txtL l ++ txtL m
  | [], m => by rw [txtL_nil]; rfl
  | x :: l, m => by rw [List.cons_append, txtL_cons, txtL_cons, txtL_append l m]; simp
def brk (l : List Nat) : Prop := ∀ c, c ∈ l → c = 40 ∨ c = 41
mutual
theorem txt_brk : ∀ t : Tt, brk (txt t)
  | .mk l => by rw [txt]; exact txtL_brk l
theorem txtL_brk : ∀ l : List Tt, brk (txtL l)
  | [] => by rw [txtL]; intro c h; cases h
  | x :: l => by
    rw [txtL]
    intro c h
    rcases List.mem_cons.mp h with e | h
    · exact .inl e
    · rcases List.mem_append.mp h with h | h
      · exact txt_brk x c h
      · rcases List.mem_cons.mp h with e | h
        · exact .inr e
        · exact txtL_brk l c h
end
mutual
theorem txt_len : ∀ t : Tt, (txt t).length + 2 = 2 * knots t
  | .mk l => by rw [txt, knots]; have := txtL_len l; omega
theorem txtL_len : ∀ l : List Tt, (txtL l).length = 2 * knotsL l
  | [] => by rw [txtL, knotsL]; rfl
  | x :: l => by
    rw [txtL, knotsL, List.length_cons, List.length_append, List.length_cons]
    have := txt_len x; have := txtL_len l
    omega
end
mutual
theorem txt_count : ∀ t : Tt, (txt t).count 40 + 1 = knots t
  | .mk l => by rw [txt, knots, txtL_count l]; omega
theorem txtL_count : ∀ l : List Tt, (txtL l).count 40 = knotsL l
  | [] => by rw [txtL, knotsL]; rfl
  | x :: l => by
    rw [txtL, knotsL, List.count_cons_self, List.count_append, List.count_cons_of_ne (by decide), txtL_count l]
    have := txt_count x
    omega
end
mutual
theorem depth_knots : ∀ t : Tt, depth t + 1 ≤ knots t
  | .mk l => by rw [depth, knots]; have := depthL_knots l; omega
theorem depthL_knots : ∀ l : List Tt, depthL l ≤ knotsL l
  | [] => by rw [depthL, knotsL]; exact Nat.le_refl _
  | x :: l => by
    rw [depthL, knotsL]
    have := depth_knots x; have := depthL_knots l
    omega
end
/-! ### reading -/
/-- the open ones, the innermost first -/
abbrev Stk := List (List Tt)
def step1 (st : Stk) (c : Nat) : Option Stk :=
  if c = 40 then some ([] :: st) else match st with
    | b :: p :: r => some ((p ++ [.mk b]) :: r)
    | _ => none
def rdS : Stk → List Nat → Option Stk
  | st, [] => some st
  | st, c :: l => (step1 st c).bind fun s => rdS s l
/-- .. never more than 41 open -/
def rdL : Stk → List Nat → Option Stk
  | st, [] => some st
  | st, c :: l => (step1 st c).bind fun s => if 41 < s.length then none else rdL s l
theorem rdS_cons (st : Stk) (c : Nat) (l : List Nat) : rdS st (c :: l) = (step1 st c).bind fun s => rdS s l := rfl
theorem rdL_cons (st : Stk) (c : Nat) (l : List Nat) : rdL st (c :: l) = (step1 st c).bind fun s => if 41 < s.length then none else rdL s l := rfl
theorem rdL_rdS : ∀ (l : List Nat) (st x : Stk), rdL st l = some x → rdS st l = some x
  | [], st, x, h => h
  | c :: l, st, x, h => by
    rw [rdL_cons] at h
    rw [rdS_cons]
    cases e : step1 st c with
    | none => rw [e] at h; cases h
    | some s =>
      rw [e, Option.bind_some] at h
      rw [Option.bind_some]
      by_cases hl : 41 < s.length
      · rw [if_pos hl] at h; cases h
      · rw [if_neg hl] at h; exact rdL_rdS l s x h
theorem rdL_append : ∀ (l m : List Nat) (st : Stk), rdL st (l ++ m) = (rdL st l).bind fun s => rdL s m
  | [], m, st => rfl
  | c :: l, m, st => by
    rw [List.cons_append, rdL_cons, rdL_cons]
    cases step1 st c with
    | none => rfl
    | some s =>
      rw [Option.bind_some, Option.bind_some]
      by_cases hl : 41 < s.length
      · rw [if_pos hl, if_pos hl]; rfl
      · rw [if_neg hl, if_neg hl]; exact rdL_append l m s
theorem rdS_append : ∀ (l m : List Nat) (st : Stk), rdS st (l ++ m) = (rdS st l).bind fun s => rdS s m
  | [], m, st => rfl
  | c :: l, m, st => by
    rw [List.cons_append, rdS_cons, rdS_cons]
    cases step1 st c with
    | none => rfl
    | some s => rw [Option.bind_some, Option.bind_some]; exact rdS_append l m s
/-- what has been read so far -/
def stT : Stk → List Nat
  | [] => []
  | [s] => txtL s
  | s :: t :: r => stT (t :: r) ++ 40 :: txtL s
theorem stT_two (s t : List Tt) (r : Stk) : stT (s :: t :: r) = stT (t :: r) ++ 40 :: txtL s := rfl
theorem step1_txt {st s : Stk} {c : Nat} (hn : st ≠ []) (hc : c = 40 ∨ c = 41) (h : step1 st c = some s) : s ≠ [] ∧ stT s = stT st ++ [c] := by
  unfold step1 at h
  rcases hc with e | e
  · subst e
    rw [if_pos rfl] at h
    cases h
    cases st with
    | nil => exact absurd rfl hn
    | cons a r => exact ⟨by simp, by rw [stT_two, txtL_nil]⟩
  · subst e
    rw [if_neg (by decide)] at h
    cases st with
    | nil => cases h
    | cons b r =>
      cases r with
      | nil => cases h
      | cons p r =>
        cases h
        refine ⟨by simp, ?_⟩
        have ep : txtL (p ++ [.mk b]) = txtL p ++ (40 :: txtL b ++ [41]) := by
          rw [txtL_append, txtL_cons, txtL_nil, txt_mk]; simp
        cases r with
        | nil =>
          show txtL (p ++ [.mk b]) = stT [b, p] ++ [41]
          rw [stT_two, ep]
          show _ = (txtL p ++ 40 :: txtL b) ++ [41]
          simp
        | cons q r =>
          rw [stT_two, stT_two, stT_two, ep]
          simp
theorem rdS_txt : ∀ (l : List Nat) (st s : Stk), st ≠ [] → brk l → rdS st l = some s → s ≠ [] ∧ stT s = stT st ++ l
  | [], st, s, hn, _, h => by cases h; exact ⟨hn, by simp⟩
  | c :: l, st, s, hn, hb, h => by
    rw [rdS_cons] at h
    cases e : step1 st c with
    | none => rw [e] at h; cases h
    | some s1 =>
      rw [e, Option.bind_some] at h
      obtain ⟨h1, h2⟩ := step1_txt hn (hb c List.mem_cons_self) e
      obtain ⟨h3, h4⟩ := rdS_txt l s1 s h1 (fun d hd => hb d (List.mem_cons_of_mem _ hd)) h
      exact ⟨h3, by rw [h4, h2]; simp⟩
/-- a text that is read is the tree's -/
theorem rdS_is {l : List Nat} {t : List Tt} (hb : brk l) (h : rdS [[]] l = some [t]) : l = txtL t := by
  have := (rdS_txt l _ _ (by simp) hb h).2
  show l = stT [t]
  rw [this]
  show l = txtL [] ++ l
  rw [txtL_nil]; rfl
mutual
theorem rdS_tree : ∀ (t : Tt) (s : List Tt) (st : Stk) (r : List Nat), rdS (s :: st) (40 :: (txt t ++ 41 :: r)) = rdS ((s ++ [t]) :: st) r
  | .mk l, s, st, r => by
    rw [rdS_cons]
    show rdS ([] :: s :: st) (txt (.mk l) ++ 41 :: r) = _
    rw [txt_mk, rdS_trees l [] (s :: st) (41 :: r), List.nil_append]
    rfl
theorem rdS_trees : ∀ (l : List Tt) (s : List Tt) (st : Stk) (r : List Nat), rdS (s :: st) (txtL l ++ r) = rdS ((s ++ l) :: st) r
  | [], s, st, r => by rw [txtL_nil, List.append_nil]; rfl
  | x :: l, s, st, r => by
    have e : txtL (x :: l) ++ r = 40 :: (txt x ++ 41 :: (txtL l ++ r)) := by rw [txtL_cons]; simp
    rw [e, rdS_tree x s st, rdS_trees l, List.append_assoc]
    rfl
end
theorem rdS_txtL (l : List Tt) : rdS [[]] (txtL l) = some [l] := by
  have h := rdS_trees l [] [] []
  rw [List.append_nil] at h
  rw [h]; rfl
/-- how deep the end will be at least -/
def W_ : Stk → Nat
  | [] => 0
  | s :: st => max (st.length + depthL s) (W_ st)
theorem depthL_app1 (l : List Tt) (t : Tt) : depthL (l ++ [t]) = max (depthL l) (depth t + 1) := by
  induction l with
  | nil => rw [List.nil_append, depthL, depthL, depthL]; omega
  | cons x l ih => rw [List.cons_append, depthL, ih, depthL]; omega
theorem step1_W {st s : Stk} {c : Nat} (h : step1 st c = some s) : W_ st ≤ W_ s := by
  unfold step1 at h
  by_cases e : c = 40
  · rw [if_pos e] at h; cases h
    show _ ≤ max _ (W_ st)
    omega
  · rw [if_neg e] at h
    cases st with
    | nil => cases h
    | cons b r =>
      cases r with
      | nil => cases h
      | cons p r =>
        cases h
        show max ((p :: r).length + depthL b) (max (r.length + depthL p) (W_ r)) ≤ max (r.length + depthL (p ++ [.mk b])) (W_ r)
        rw [depthL_app1, depth, List.length_cons]
        omega
theorem rdS_W : ∀ (l : List Nat) (st s : Stk), rdS st l = some s → W_ st ≤ W_ s
  | [], st, s, h => by cases h; exact Nat.le_refl _
  | c :: l, st, s, h => by
    rw [rdS_cons] at h
    cases e : step1 st c with
    | none => rw [e] at h; cases h
    | some s1 =>
      rw [e, Option.bind_some] at h
      exact Nat.le_trans (step1_W e) (rdS_W l s1 s h)
theorem len_W : ∀ st : Stk, st.length ≤ W_ st + 1
  | [] => by simp
  | s :: st => by
    show _ ≤ max (st.length + depthL s) (W_ st) + 1
    rw [List.length_cons]; omega
theorem rdS_rdL : ∀ (l : List Nat) (st : Stk) (t : List Tt), depthL t ≤ 40 → rdS st l = some [t] → rdL st l = some [t]
  | [], st, t, _, h => h
  | c :: l, st, t, hd, h => by
    rw [rdS_cons] at h
    rw [rdL_cons]
    cases e : step1 st c with
    | none => rw [e] at h; cases h
    | some s1 =>
      rw [e, Option.bind_some] at h
      rw [Option.bind_some]
      have h1 := rdS_W l s1 _ h
      have h2 := len_W s1
      have h3 : W_ [t] = max (0 + depthL t) 0 := rfl
      rw [if_neg (by omega)]
      exact rdS_rdL l s1 t hd h
/-! ### texts -/
def mkS (l : List Nat) : Str := ⟨l.toArray⟩
theorem mkS_append (a b : List Nat) : mkS a ++ mkS b = mkS (a ++ b) := by
  show Str.append (mkS a) (mkS b) = _
  unfold Str.append mkS
  simp
theorem mkS_len (a : List Nat) : (mkS a).length = a.length := by unfold mkS Str.length; simp
theorem mkS_inj {a b : List Nat} (h : mkS a = mkS b) : a = b := by
  unfold mkS at h
  injection h with h
  simpa using congrArg Array.toList h
theorem lit40 : Str.ofString "(" = mkS [40] := by decide +kernel
theorem lit41 : Str.ofString ")" = mkS [41] := by decide +kernel
theorem litE : Str.ofString "" = mkS [] := by decide +kernel
theorem litB : Str.ofString "()" = mkS [40, 41] := by decide +kernel
theorem join_nil : ∀ ys : List (List Nat), Txt.join (mkS []) (ys.map mkS) = mkS ys.flatten := by
  intro ys
  unfold Txt.join
  rw [StrLaws.glued_eq_join]
  induction ys with
  | nil => rfl
  | cons y ys ih =>
    cases ys with
    | nil => show mkS y = _; simp
    | cons z ys =>
      show mkS y ++ mkS [] ++ Str.join (mkS []) ((z :: ys).map mkS) = _
      rw [ih, mkS_append, mkS_append]; simp
theorem flatten_txt : ∀ l : List Tt, (l.map fun x => 40 :: (txt x ++ [41])).flatten = txtL l
  | [] => by rw [txtL_nil]; rfl
  | x :: l => by rw [List.map_cons, List.flatten_cons, flatten_txt l, txtL_cons]; simp
theorem strip_brk {l : List Nat} (h : brk l) : Txt.stripChars (mkS l) (mkS [40, 41]) = mkS [] := by
  have g : ∀ c, c ∈ l → (mkS [40, 41]).cps.contains c = true := fun c hc => by
    rcases h c hc with e | e <;> subst e <;> decide +kernel
  have t : ∀ m : List Nat, (∀ c, c ∈ m → (mkS [40, 41]).cps.contains c = true) → m.takeWhile (mkS [40, 41]).cps.contains = m := fun m hm => by
    induction m with
    | nil => rfl
    | cons c m ih => rw [List.takeWhile_cons_of_pos (hm c List.mem_cons_self), ih fun d hd => hm d (List.mem_cons_of_mem _ hd)]
  have e1 : (mkS l).cps.toList = l := by unfold mkS; simp
  unfold Txt.stripChars Txt.stripBy
  have lo : stripLo (mkS [40, 41]).cps.contains true (mkS l) = l.length := by
    unfold stripLo
    rw [if_pos rfl, e1, t l g]
  have hi : stripHi (mkS [40, 41]).cps.contains true (mkS l) l.length = l.length := by
    unfold stripHi
    rw [if_pos rfl, e1, List.drop_length, mkS_len]; rfl
  unfold stripSame stripped
  rw [lo, hi, mkS_len]
  by_cases h0 : l.length = 0
  · have : l = [] := List.length_eq_zero_iff.mp h0
    subst this
    rfl
  · have b0 : (l.length == 0) = false := by simpa using h0
    rw [b0, Bool.false_and, if_neg Bool.false_ne_true]
    show (⟨(mkS l).cps.extract l.length l.length⟩ : Str) = mkS []
    unfold mkS
    simp
end Hg
/-! l.count(x) of data of any depth. -/
namespace Hg
open PySem PySem.Spec PyProof.Rows L2
def rCountD (K : PySem.W.Frag) : V → List V → Hp → VK → Prop := fun x xs H Q => ∃ (a : Addr) (y : V) (d : PyData) (ds : List PyData), x = V.ref a ∧ xs = [y] ∧ Dp K H (V.ref a) (.list ds) ∧ Dp K H y d ∧ SeqAt.shaped (.list ds) = true ∧ SeqAt.shaped d = true ∧
  Q (.int ((ds.countP fun z => PyData.eqv z d : Nat) : Int)) H
theorem mt_countD {X : Cx} (hu : X.A.units + 65 < cLine) : MtR X "list.count" (rCountD X.K) := by
  intro pins st σ H x xs v us Q I rx rxs h
  obtain ⟨a, y, d, ds, rfl, rfl, hl, hy, sl, sd, q⟩ := h
  cases rx
  cases rxs with
  | cons ry rt =>
    rename_i uy ut
    cases rt
    obtain ⟨bs, ry1⟩ := Dp.reads I d y uy hy ry
    have lay : PyData.canLayAll0 ds = true := SeqAt.canLay_of_shaped sl
    have room : X.A.units + 1 + min (PyData.depthAll ds) d.depth < cLine := room_in_shaped sd hu
    cases hl with
    | lst hs ha =>
      obtain ⟨its, rv, ⟨⟨cls, dd, data, sls⟩, n, ho, hc, hdn, hdt⟩, hlen⟩ := I.list hs
      simp only at hc hdt
      subst hc hdt
      obtain ⟨as, rall⟩ := Dp.readsAll I ds _ its ha rv
      have emap : its.map (SeqAt.readOf st.heap) = ds := SeqAt.readsAll_map ds its as lay rall
      refine call_meets PySem.F.slot_list_count ⟨_, ho, rfl⟩ PySem.F.entry_list_count (PySem.F.args_list_count_2 _ _)
        (SeqAt.list_countAt a its.toArray n dd sls uy (fun u => PyData.eqv (SeqAt.readOf st.heap u) d)) ⟨ho, SeqAt.items_eqAt (vs := its.toArray) (show ReadsAll st.heap its.toArray.toList ds as from rall) ry1 lay (SeqAt.canLay_of_shaped sd) room, ?_⟩
      have ec : its.toArray.toList.countP (fun u => PyData.eqv (SeqAt.readOf st.heap u) d) = ds.countP fun z => PyData.eqv z d := by
        rw [← emap, List.countP_map]; rfl
      rw [ec]
      exact ⟨.int _, H, I.tok _, ⟨_, rfl⟩, q⟩
end Hg
/-! Lambdas handed to a def that calls them: what the hand layer lacks for defs of L2N. -/
namespace Hg
open PySem PySem.Spec PyProof.Rows L2
theorem cxn_cx {P : Program} {w : World} {outer : List Env} {H : Hp} {s : Shared} {E : XK} {u : Value} {s' : Shared} (c : L2N.CX P w outer H s E u s') : L2.CX P w outer H s E u s' := by
  obtain ⟨a, B, H', cls, d, e, ⟨f1, f2, f3, oe, vs, T, oT, ts, g1, g2, g3⟩, rest⟩ := c
  exact ⟨a, B, H', cls, d, e, ⟨f1, f2, f3, oe, vs, T, oT, ts, g1, g2.zc, g3⟩, rest⟩
theorem lamPass {X : Cx} {A : Around} {outer : List Env} {s : Shared} {H : Hp} {E : XK} {scope : Scope} {f c' : Addr} : Passes (L2N.CX X.prog X.w) (LamX.lamCx X A outer s H E scope f c') E :=
  fun pins σ H1 s1 e s2 I c => L2.passes_call (L2.takes_of (E := E) rfl rfl rfl rfl) (fun _ _ _ _ h => h) pins σ H1 s1 e s2 I (cxn_cx c)
/-- the names' slots are as many as the def's names -/
theorem takes_len {X : Cx} {W : WX} (t : L2.Takes X W) : L2.Takes X (fun c d σ H => σ.length = X.N.length → W c d σ H) := by
  intro u s' h
  obtain ⟨a, B, sI, pins, σ, H, cls, d, e, I, nb, up, sky, na, os, ag, hw⟩ := h
  exact t u s' ⟨a, B, sI, pins, σ, H, cls, d, e, I, nb, up, sky, na, os, ag, hw I.len⟩
/-- isinstance of what a try of L2 caught -/
theorem call_isEc {X : Cx} {a : Addr} {oe : Obj} {cls : Value} {d : Option Addr} {pn : List (Addr × Obj)} (hz : L2.Zc cls d oe) (hf : ∃ vs, oe.data = .fields vs) :
    CallR (X.suite a ((a, oe) :: pn)) (.builtin "isinstance") (rIsEx X.K a cls d) := by
  intro pins s σ H xs us Q I r h
  obtain ⟨D, c, cv, b, rfl, rfl, C, e1, e2, e3, q⟩ := h
  exact call_isE C hz hf pins s σ H xs us Q I r ⟨c, cv, b, e1, e2, e3, q⟩
theorem tab_mk {K : PySem.W.Frag} {x : Str} {f c P : Addr} {oc e : Value} {od dd : Option Addr} {fd : FuncData} {vs : Array Value} {sl sl2 : Array (Option Value)} (n : PySem.W.nsIn K mainGlobals x = some (some (.ref f))) (l : K.lookup f = some ⟨oc, od, .func fd, sl⟩) (hc : fd.code = .ref c)
    (lc : K.lookup c = some ⟨e, dd, .fields vs, sl2⟩) (h : vs[11]? = some (.ref P)) : PySem.W.tabIn K x = some (c, P) := by
  unfold PySem.W.tabIn
  simp only [n, l, hc, lc, h]
/-- a def whose code object is known -/
theorem okC {P : Program} {w : World} {K : PySem.W.Frag} {mg : Str → Option Value} {base : Heap} {x qual : Str} {st : Stmt} {f c : Addr} {fd : FuncData} {N ps : List Str} {k : Nat} {sp : Sp} (F : Fun K x qual st f fd) (hc : fd.code = .ref c) (S : FnScope N ps (defScope st)) (len : ∀ vs H Q E, sp vs H Q E → vs.length = ps.length)
    (hbody : ∀ (A : Around) (outer : List Env) (s : Shared) (H : Hp) (vs : List V) (Q : VK) (E : XK), Room k (A.deeper (envOfC qual (defScope st) s.heap.objs.size f (.ref c))) → sp vs H Q E →
      ∃ t, PSs (cxOf CX0 P w K mg base N qual (defScope st) f (.ref c) A outer s H E).nox (defBody st) t ∧ t { nx := fun _ H' => Q .non H', rt := Q } (L2.start N vs) H) : FnOk P w K mg base CX0 (k + 1) f fd ps sp := by
  obtain ⟨oc, od, kV, doc, pm, an, cdv, ct, osl, rfl, lk, hcd⟩ := F.ex
  have e : cdv = .ref c := hc
  subst e
  refine fn_of lk hcd S len fun A outer s H vs Q E hr hsp => ?_
  obtain ⟨t, h, q⟩ := hbody A outer s H vs Q E hr hsp
  exact ⟨t, h.nox, q⟩
end Hg
set_option Elab.async false
set_option linter.all false
set_option maxRecDepth 100000
set_option maxHeartbeats 4000000
namespace Hg
open PySem L2
def top (i : Nat) : Stmt := PySem.Challenge.pw_headsgrow_k06_whole_numbers.main.body.getD i (.Pass ⟨0, 0, 0, 0⟩)
abbrev s_is_tree : Stmt := top 12
theorem sc_is_tree : FnScope ["thing", "depth", "left", "branch"] ["thing", "depth", "left"] (defScope s_is_tree) := ⟨rfl, rfl, rfl, by decide +kernel, rfl, by decide +kernel, by decide +kernel⟩
abbrev s_asked_tree : Stmt := top 13
theorem sc_asked_tree : FnScope ["tree"] ["tree"] (defScope s_asked_tree) := ⟨rfl, rfl, rfl, by decide +kernel, rfl, by decide +kernel, by decide +kernel⟩
abbrev s_compared : Stmt := top 14
theorem sc_compared : FnScope ["one", "other", "mine", "theirs", "found"] ["one", "other"] (defScope s_compared) := ⟨rfl, rfl, rfl, by decide +kernel, rfl, by decide +kernel, by decide +kernel⟩
abbrev s_merged : Stmt := top 15
theorem sc_merged : FnScope ["one", "other", "found", "near", "far"] ["one", "other"] (defScope s_merged) := ⟨rfl, rfl, rfl, by decide +kernel, rfl, by decide +kernel, by decide +kernel⟩
abbrev s_copied : Stmt := top 16
theorem sc_copied : FnScope ["tree", "branch"] ["tree"] (defScope s_copied) := ⟨rfl, rfl, rfl, by decide +kernel, rfl, by decide +kernel, by decide +kernel⟩
abbrev s_told_of : Stmt := top 17
theorem sc_told_of : FnScope ["tree", "found", "branch"] ["tree"] (defScope s_told_of) := ⟨rfl, rfl, rfl, by decide +kernel, rfl, by decide +kernel, by decide +kernel⟩
abbrev s_told : Stmt := top 18
theorem sc_told : FnScope ["tree"] ["tree"] (defScope s_told) := ⟨rfl, rfl, rfl, by decide +kernel, rfl, by decide +kernel, by decide +kernel⟩
abbrev s_compare : Stmt := top 19
theorem sc_compare : FnScope ["one", "other", "found"] ["one", "other"] (defScope s_compare) := ⟨rfl, rfl, rfl, by decide +kernel, rfl, by decide +kernel, by decide +kernel⟩
abbrev s_knots : Stmt := top 20
theorem sc_knots : FnScope ["tree", "branch"] ["tree"] (defScope s_knots) := ⟨rfl, rfl, rfl, by decide +kernel, rfl, by decide +kernel, by decide +kernel⟩
abbrev s_asked_great : Stmt := top 21
theorem sc_asked_great : FnScope ["tree"] ["tree"] (defScope s_asked_great) := ⟨rfl, rfl, rfl, by decide +kernel, rfl, by decide +kernel, by decide +kernel⟩
abbrev s_together : Stmt := top 22
theorem sc_together : FnScope ["one", "other"] ["one", "other"] (defScope s_together) := ⟨rfl, rfl, rfl, by decide +kernel, rfl, by decide +kernel, by decide +kernel⟩
abbrev s_behind : Stmt := top 23
theorem sc_behind : FnScope ["one", "other", "second", "first", "branch"] ["one", "other"] (defScope s_behind) := ⟨rfl, rfl, rfl, by decide +kernel, rfl, by decide +kernel, by decide +kernel⟩
abbrev s_is_number : Stmt := top 25
theorem sc_is_number : FnScope ["thing"] ["thing"] (defScope s_is_number) := ⟨rfl, rfl, rfl, by decide +kernel, rfl, by decide +kernel, by decide +kernel⟩
abbrev s_heads_of : Stmt := top 26
theorem sc_heads_of : FnScope ["tree", "found", "at", "branch", "way"] ["tree"] (defScope s_heads_of) := ⟨rfl, rfl, rfl, by decide +kernel, rfl, by decide +kernel, by decide +kernel⟩
abbrev s_heads : Stmt := top 27
theorem sc_heads : FnScope ["tree"] ["tree"] (defScope s_heads) := ⟨rfl, rfl, rfl, by decide +kernel, rfl, by decide +kernel, by decide +kernel⟩
abbrev s_knot_at : Stmt := top 28
theorem sc_knot_at : FnScope ["tree", "way", "at"] ["tree", "way"] (defScope s_knot_at) := ⟨rfl, rfl, rfl, by decide +kernel, rfl, by decide +kernel, by decide +kernel⟩
abbrev s_cut_of : Stmt := top 29
theorem sc_cut_of : FnScope ["tree", "way", "times", "found", "bearer", "time"] ["tree", "way", "times"] (defScope s_cut_of) := ⟨rfl, rfl, rfl, by decide +kernel, rfl, by decide +kernel, by decide +kernel⟩
abbrev s_cut : Stmt := top 30
theorem sc_cut : FnScope ["tree", "way", "times", "at"] ["tree", "way", "times"] (defScope s_cut) := ⟨rfl, rfl, rfl, by decide +kernel, rfl, by decide +kernel, by decide +kernel⟩
abbrev s_asked_base : Stmt := top 33
theorem sc_asked_base : FnScope ["base"] ["base"] (defScope s_asked_base) := ⟨rfl, rfl, rfl, by decide +kernel, rfl, by decide +kernel, by decide +kernel⟩
abbrev s_written_of : Stmt := top 34
theorem sc_written_of : FnScope ["number", "base", "left", "found", "power", "many", "time"] ["number", "base", "left"] (defScope s_written_of) := ⟨rfl, rfl, rfl, by decide +kernel, rfl, by decide +kernel, by decide +kernel⟩
abbrev s_written : Stmt := top 35
theorem sc_written : FnScope ["number", "base"] ["number", "base"] (defScope s_written) := ⟨rfl, rfl, rfl, by decide +kernel, rfl, by decide +kernel, by decide +kernel⟩
abbrev s_can_write : Stmt := top 36
theorem sc_can_write : FnScope ["tree", "base", "at", "branch"] ["tree", "base"] (defScope s_can_write) := ⟨rfl, rfl, rfl, by decide +kernel, rfl, by decide +kernel, by decide +kernel⟩
abbrev s_value_of : Stmt := top 37
theorem sc_value_of : FnScope ["tree", "base", "found", "branch", "exponent", "power", "time"] ["tree", "base"] (defScope s_value_of) := ⟨rfl, rfl, rfl, by decide +kernel, rfl, by decide +kernel, by decide +kernel⟩
abbrev s_number_of : Stmt := top 38
theorem sc_number_of : FnScope ["tree", "base", "found"] ["tree", "base"] (defScope s_number_of) := ⟨rfl, rfl, rfl, by decide +kernel, rfl, by decide +kernel, by decide +kernel⟩
abbrev s_stepped : Stmt := top 39
theorem sc_stepped : FnScope ["number", "base", "tree", "found"] ["number", "base"] (defScope s_stepped) := ⟨rfl, rfl, rfl, by decide +kernel, rfl, by decide +kernel, by decide +kernel⟩
abbrev s_text_of : Stmt := top 41
theorem sc_text_of : FnScope ["tree", "branch"] ["tree"] (defScope s_text_of) := ⟨rfl, rfl, rfl, by decide +kernel, rfl, by decide +kernel, by decide +kernel⟩
abbrev s_text : Stmt := top 42
theorem sc_text : FnScope ["tree"] ["tree"] (defScope s_text) := ⟨rfl, rfl, rfl, by decide +kernel, rfl, by decide +kernel, by decide +kernel⟩
abbrev s_read : Stmt := top 43
theorem sc_read : FnScope ["text", "open_ones", "sign", "branch"] ["text"] (defScope s_read) := ⟨rfl, rfl, rfl, by decide +kernel, rfl, by decide +kernel, by decide +kernel⟩
abbrev s__law_number : Stmt := top 45
theorem sc__law_number : FnScope ["_law_cell", "_law_at", "_law_whole", "_law_blend", "_law_more"] ["_law_cell", "_law_at", "_law_whole"] (defScope s__law_number) := ⟨rfl, rfl, rfl, by decide +kernel, rfl, by decide +kernel, by decide +kernel⟩
abbrev s__law_plain : Stmt := top 46
theorem sc__law_plain : FnScope ["_law_thing", "_law_one"] ["_law_thing"] (defScope s__law_plain) := ⟨rfl, rfl, rfl, by decide +kernel, rfl, by decide +kernel, by decide +kernel⟩
abbrev s__law_no_of : Stmt := top 47
theorem sc__law_no_of : FnScope ["_law_ask", "error", "_law_sorts"] ["_law_ask"] (defScope s__law_no_of) := ⟨rfl, rfl, rfl, by decide +kernel, rfl, by decide +kernel, by decide +kernel⟩
abbrev s__law_promises_right : Stmt := top 48
theorem sc__law_promises_right : FnScope ["_law_number_here"] [] (defScope s__law_promises_right) := ⟨rfl, rfl, rfl, by decide +kernel, rfl, by decide +kernel, by decide +kernel⟩
abbrev s_law : Stmt := top 49
theorem sc_law : FnScope ["_law_script", "_law_whole", "_law_number_here", "_law_base", "_law_tree", "_law_found"] ["_law_script"] (defScope s_law) := ⟨rfl, rfl, rfl, by decide +kernel, rfl, by decide +kernel, by decide +kernel⟩
structure Txt (K : PySem.W.Frag) (mg : Str → Option Value) where
  a_is_tree : Addr
  d_is_tree : FuncData
  F_is_tree : Fun K "is_tree" "is_tree" s_is_tree a_is_tree d_is_tree
  b_is_tree : Binds K d_is_tree ["thing", "depth", "left"] []
  m_is_tree : mg "is_tree" = some (.ref a_is_tree)
  k_is_tree : PySem.W.keepIn K (.ref a_is_tree) = true
  a_asked_tree : Addr
  d_asked_tree : FuncData
  F_asked_tree : Fun K "asked_tree" "asked_tree" s_asked_tree a_asked_tree d_asked_tree
  b_asked_tree : Binds K d_asked_tree ["tree"] []
  m_asked_tree : mg "asked_tree" = some (.ref a_asked_tree)
  k_asked_tree : PySem.W.keepIn K (.ref a_asked_tree) = true
  a_compared : Addr
  d_compared : FuncData
  F_compared : Fun K "compared" "compared" s_compared a_compared d_compared
  b_compared : Binds K d_compared ["one", "other"] []
  m_compared : mg "compared" = some (.ref a_compared)
  k_compared : PySem.W.keepIn K (.ref a_compared) = true
  a_merged : Addr
  d_merged : FuncData
  F_merged : Fun K "merged" "merged" s_merged a_merged d_merged
  b_merged : Binds K d_merged ["one", "other"] []
  m_merged : mg "merged" = some (.ref a_merged)
  k_merged : PySem.W.keepIn K (.ref a_merged) = true
  a_copied : Addr
  d_copied : FuncData
  F_copied : Fun K "copied" "copied" s_copied a_copied d_copied
  b_copied : Binds K d_copied ["tree"] []
  m_copied : mg "copied" = some (.ref a_copied)
  k_copied : PySem.W.keepIn K (.ref a_copied) = true
  a_told_of : Addr
  d_told_of : FuncData
  F_told_of : Fun K "told_of" "told_of" s_told_of a_told_of d_told_of
  b_told_of : Binds K d_told_of ["tree"] []
  m_told_of : mg "told_of" = some (.ref a_told_of)
  k_told_of : PySem.W.keepIn K (.ref a_told_of) = true
  a_told : Addr
  d_told : FuncData
  F_told : Fun K "told" "told" s_told a_told d_told
  b_told : Binds K d_told ["tree"] []
  m_told : mg "told" = some (.ref a_told)
  k_told : PySem.W.keepIn K (.ref a_told) = true
  a_compare : Addr
  d_compare : FuncData
  F_compare : Fun K "compare" "compare" s_compare a_compare d_compare
  b_compare : Binds K d_compare ["one", "other"] []
  m_compare : mg "compare" = some (.ref a_compare)
  k_compare : PySem.W.keepIn K (.ref a_compare) = true
  a_knots : Addr
  d_knots : FuncData
  F_knots : Fun K "knots" "knots" s_knots a_knots d_knots
  b_knots : Binds K d_knots ["tree"] []
  m_knots : mg "knots" = some (.ref a_knots)
  k_knots : PySem.W.keepIn K (.ref a_knots) = true
  a_asked_great : Addr
  d_asked_great : FuncData
  F_asked_great : Fun K "asked_great" "asked_great" s_asked_great a_asked_great d_asked_great
  b_asked_great : Binds K d_asked_great ["tree"] []
  m_asked_great : mg "asked_great" = some (.ref a_asked_great)
  k_asked_great : PySem.W.keepIn K (.ref a_asked_great) = true
  a_together : Addr
  d_together : FuncData
  F_together : Fun K "together" "together" s_together a_together d_together
  b_together : Binds K d_together ["one", "other"] []
  m_together : mg "together" = some (.ref a_together)
  k_together : PySem.W.keepIn K (.ref a_together) = true
  a_behind : Addr
  d_behind : FuncData
  F_behind : Fun K "behind" "behind" s_behind a_behind d_behind
  b_behind : Binds K d_behind ["one", "other"] []
  m_behind : mg "behind" = some (.ref a_behind)
  k_behind : PySem.W.keepIn K (.ref a_behind) = true
  a_is_number : Addr
  d_is_number : FuncData
  F_is_number : Fun K "is_number" "is_number" s_is_number a_is_number d_is_number
  b_is_number : Binds K d_is_number ["thing"] []
  m_is_number : mg "is_number" = some (.ref a_is_number)
  k_is_number : PySem.W.keepIn K (.ref a_is_number) = true
  a_heads_of : Addr
  d_heads_of : FuncData
  F_heads_of : Fun K "heads_of" "heads_of" s_heads_of a_heads_of d_heads_of
  b_heads_of : Binds K d_heads_of ["tree"] []
  m_heads_of : mg "heads_of" = some (.ref a_heads_of)
  k_heads_of : PySem.W.keepIn K (.ref a_heads_of) = true
  a_heads : Addr
  d_heads : FuncData
  F_heads : Fun K "heads" "heads" s_heads a_heads d_heads
  b_heads : Binds K d_heads ["tree"] []
  m_heads : mg "heads" = some (.ref a_heads)
  k_heads : PySem.W.keepIn K (.ref a_heads) = true
  a_knot_at : Addr
  d_knot_at : FuncData
  F_knot_at : Fun K "knot_at" "knot_at" s_knot_at a_knot_at d_knot_at
  b_knot_at : Binds K d_knot_at ["tree", "way"] []
  m_knot_at : mg "knot_at" = some (.ref a_knot_at)
  k_knot_at : PySem.W.keepIn K (.ref a_knot_at) = true
  a_cut_of : Addr
  d_cut_of : FuncData
  F_cut_of : Fun K "cut_of" "cut_of" s_cut_of a_cut_of d_cut_of
  b_cut_of : Binds K d_cut_of ["tree", "way", "times"] []
  m_cut_of : mg "cut_of" = some (.ref a_cut_of)
  k_cut_of : PySem.W.keepIn K (.ref a_cut_of) = true
  a_cut : Addr
  d_cut : FuncData
  F_cut : Fun K "cut" "cut" s_cut a_cut d_cut
  b_cut : Binds K d_cut ["tree", "way", "times"] []
  m_cut : mg "cut" = some (.ref a_cut)
  k_cut : PySem.W.keepIn K (.ref a_cut) = true
  a_asked_base : Addr
  d_asked_base : FuncData
  F_asked_base : Fun K "asked_base" "asked_base" s_asked_base a_asked_base d_asked_base
  b_asked_base : Binds K d_asked_base ["base"] []
  m_asked_base : mg "asked_base" = some (.ref a_asked_base)
  k_asked_base : PySem.W.keepIn K (.ref a_asked_base) = true
  a_written_of : Addr
  d_written_of : FuncData
  F_written_of : Fun K "written_of" "written_of" s_written_of a_written_of d_written_of
  b_written_of : Binds K d_written_of ["number", "base", "left"] []
  m_written_of : mg "written_of" = some (.ref a_written_of)
  k_written_of : PySem.W.keepIn K (.ref a_written_of) = true
  a_written : Addr
  d_written : FuncData
  F_written : Fun K "written" "written" s_written a_written d_written
  b_written : Binds K d_written ["number", "base"] []
  m_written : mg "written" = some (.ref a_written)
  k_written : PySem.W.keepIn K (.ref a_written) = true
  a_can_write : Addr
  d_can_write : FuncData
  F_can_write : Fun K "can_write" "can_write" s_can_write a_can_write d_can_write
  b_can_write : Binds K d_can_write ["tree", "base"] []
  m_can_write : mg "can_write" = some (.ref a_can_write)
  k_can_write : PySem.W.keepIn K (.ref a_can_write) = true
  a_value_of : Addr
  d_value_of : FuncData
  F_value_of : Fun K "value_of" "value_of" s_value_of a_value_of d_value_of
  b_value_of : Binds K d_value_of ["tree", "base"] []
  m_value_of : mg "value_of" = some (.ref a_value_of)
  k_value_of : PySem.W.keepIn K (.ref a_value_of) = true
  a_number_of : Addr
  d_number_of : FuncData
  F_number_of : Fun K "number_of" "number_of" s_number_of a_number_of d_number_of
  b_number_of : Binds K d_number_of ["tree", "base"] []
  m_number_of : mg "number_of" = some (.ref a_number_of)
  k_number_of : PySem.W.keepIn K (.ref a_number_of) = true
  a_stepped : Addr
  d_stepped : FuncData
  F_stepped : Fun K "stepped" "stepped" s_stepped a_stepped d_stepped
  b_stepped : Binds K d_stepped ["number", "base"] []
  m_stepped : mg "stepped" = some (.ref a_stepped)
  k_stepped : PySem.W.keepIn K (.ref a_stepped) = true
  a_text_of : Addr
  d_text_of : FuncData
  F_text_of : Fun K "text_of" "text_of" s_text_of a_text_of d_text_of
  b_text_of : Binds K d_text_of ["tree"] []
  m_text_of : mg "text_of" = some (.ref a_text_of)
  k_text_of : PySem.W.keepIn K (.ref a_text_of) = true
  a_text : Addr
  d_text : FuncData
  F_text : Fun K "text" "text" s_text a_text d_text
  b_text : Binds K d_text ["tree"] []
  m_text : mg "text" = some (.ref a_text)
  k_text : PySem.W.keepIn K (.ref a_text) = true
  a_read : Addr
  d_read : FuncData
  F_read : Fun K "read" "read" s_read a_read d_read
  b_read : Binds K d_read ["text"] []
  m_read : mg "read" = some (.ref a_read)
  k_read : PySem.W.keepIn K (.ref a_read) = true
  a__law_number : Addr
  d__law_number : FuncData
  F__law_number : Fun K "_law_number" "_law_number" s__law_number a__law_number d__law_number
  b__law_number : Binds K d__law_number ["_law_cell", "_law_at", "_law_whole"] []
  m__law_number : mg "_law_number" = some (.ref a__law_number)
  k__law_number : PySem.W.keepIn K (.ref a__law_number) = true
  a__law_plain : Addr
  d__law_plain : FuncData
  F__law_plain : Fun K "_law_plain" "_law_plain" s__law_plain a__law_plain d__law_plain
  b__law_plain : Binds K d__law_plain ["_law_thing"] []
  m__law_plain : mg "_law_plain" = some (.ref a__law_plain)
  k__law_plain : PySem.W.keepIn K (.ref a__law_plain) = true
  a__law_no_of : Addr
  d__law_no_of : FuncData
  F__law_no_of : Fun K "_law_no_of" "_law_no_of" s__law_no_of a__law_no_of d__law_no_of
  b__law_no_of : Binds K d__law_no_of ["_law_ask"] []
  m__law_no_of : mg "_law_no_of" = some (.ref a__law_no_of)
  k__law_no_of : PySem.W.keepIn K (.ref a__law_no_of) = true
  a__law_promises_right : Addr
  d__law_promises_right : FuncData
  F__law_promises_right : Fun K "_law_promises_right" "_law_promises_right" s__law_promises_right a__law_promises_right d__law_promises_right
  b__law_promises_right : Binds K d__law_promises_right [] []
  m__law_promises_right : mg "_law_promises_right" = some (.ref a__law_promises_right)
  k__law_promises_right : PySem.W.keepIn K (.ref a__law_promises_right) = true
  a_law : Addr
  d_law : FuncData
  F_law : Fun K "law" "law" s_law a_law d_law
  b_law : Binds K d_law ["_law_script"] []
  m_law : mg "law" = some (.ref a_law)
  k_law : PySem.W.keepIn K (.ref a_law) = true
  c__law_promises_right : Addr
  P__law_promises_right : Addr
  hc__law_promises_right : d__law_promises_right.code = .ref c__law_promises_right
  z_len : mg "len" = none
  z_list : mg "list" = none
  z_range : mg "range" = none
  z_zip : mg "zip" = none
  z_enumerate : mg "enumerate" = none
  z_min : mg "min" = none
  z_max : mg "max" = none
  z_abs : mg "abs" = none
  z_sum : mg "sum" = none
  z_all : mg "all" = none
  z_isinstance : mg "isinstance" = none
  z_int : mg "int" = none
  z_bool : mg "bool" = none
  z_str : mg "str" = none
  z_tuple : mg "tuple" = none
  t_MOST : Tok
  c_MOST : mg "MOST" = some (.int 300 t_MOST)
  t_DEEPEST : Tok
  c_DEEPEST : mg "DEEPEST" = some (.int 40 t_DEEPEST)
  t_GREATEST : Tok
  c_GREATEST : mg "GREATEST" = some (.int 2582249878086908589655919172003011874329705792829223512830659356540647622016841194629645353280137831435903171972747493376 t_GREATEST)
  A_HeadError : Addr
  g_HeadError : mg "HeadError" = some (.ref A_HeadError)
  k_HeadError : PySem.W.keepIn K (.ref A_HeadError) = true
  x_HeadError : PySem.W.excIn K A_HeadError [.type "ValueError", .type "Exception", .type "BaseException", .type "object"] "ValueError.__new__" = true
  sb_HeadError : PySem.W.subIn K (.ref A_HeadError) (.type "BaseException") = some true
  tt_HeadError : PySem.W.typeIn K (.ref A_HeadError) = some (.type "type")
  A_BadTree : Addr
  g_BadTree : mg "BadTree" = some (.ref A_BadTree)
  k_BadTree : PySem.W.keepIn K (.ref A_BadTree) = true
  x_BadTree : PySem.W.excIn K A_BadTree [.type "ValueError", .type "Exception", .type "BaseException", .type "object"] "ValueError.__new__" = true
  sb_BadTree : PySem.W.subIn K (.ref A_BadTree) (.type "BaseException") = some true
  tt_BadTree : PySem.W.typeIn K (.ref A_BadTree) = some (.type "type")
  A_BadWay : Addr
  g_BadWay : mg "BadWay" = some (.ref A_BadWay)
  k_BadWay : PySem.W.keepIn K (.ref A_BadWay) = true
  x_BadWay : PySem.W.excIn K A_BadWay [.type "ValueError", .type "Exception", .type "BaseException", .type "object"] "ValueError.__new__" = true
  sb_BadWay : PySem.W.subIn K (.ref A_BadWay) (.type "BaseException") = some true
  tt_BadWay : PySem.W.typeIn K (.ref A_BadWay) = some (.type "type")
  A_BadTimes : Addr
  g_BadTimes : mg "BadTimes" = some (.ref A_BadTimes)
  k_BadTimes : PySem.W.keepIn K (.ref A_BadTimes) = true
  x_BadTimes : PySem.W.excIn K A_BadTimes [.type "ValueError", .type "Exception", .type "BaseException", .type "object"] "ValueError.__new__" = true
  sb_BadTimes : PySem.W.subIn K (.ref A_BadTimes) (.type "BaseException") = some true
  tt_BadTimes : PySem.W.typeIn K (.ref A_BadTimes) = some (.type "type")
  A_BadNumber : Addr
  g_BadNumber : mg "BadNumber" = some (.ref A_BadNumber)
  k_BadNumber : PySem.W.keepIn K (.ref A_BadNumber) = true
  x_BadNumber : PySem.W.excIn K A_BadNumber [.type "ValueError", .type "Exception", .type "BaseException", .type "object"] "ValueError.__new__" = true
  sb_BadNumber : PySem.W.subIn K (.ref A_BadNumber) (.type "BaseException") = some true
  tt_BadNumber : PySem.W.typeIn K (.ref A_BadNumber) = some (.type "type")
  A_BadBase : Addr
  g_BadBase : mg "BadBase" = some (.ref A_BadBase)
  k_BadBase : PySem.W.keepIn K (.ref A_BadBase) = true
  x_BadBase : PySem.W.excIn K A_BadBase [.type "ValueError", .type "Exception", .type "BaseException", .type "object"] "ValueError.__new__" = true
  sb_BadBase : PySem.W.subIn K (.ref A_BadBase) (.type "BaseException") = some true
  tt_BadBase : PySem.W.typeIn K (.ref A_BadBase) = some (.type "type")
  A_BadText : Addr
  g_BadText : mg "BadText" = some (.ref A_BadText)
  k_BadText : PySem.W.keepIn K (.ref A_BadText) = true
  x_BadText : PySem.W.excIn K A_BadText [.type "ValueError", .type "Exception", .type "BaseException", .type "object"] "ValueError.__new__" = true
  sb_BadText : PySem.W.subIn K (.ref A_BadText) (.type "BaseException") = some true
  tt_BadText : PySem.W.typeIn K (.ref A_BadText) = some (.type "type")
  A_TooGreat : Addr
  g_TooGreat : mg "TooGreat" = some (.ref A_TooGreat)
  k_TooGreat : PySem.W.keepIn K (.ref A_TooGreat) = true
  x_TooGreat : PySem.W.excIn K A_TooGreat [.type "ValueError", .type "Exception", .type "BaseException", .type "object"] "ValueError.__new__" = true
  sb_TooGreat : PySem.W.subIn K (.ref A_TooGreat) (.type "BaseException") = some true
  tt_TooGreat : PySem.W.typeIn K (.ref A_TooGreat) = some (.type "type")
  hd_HeadError : PySem.W.hasDictIn K A_HeadError = true
  ex_BadTree : ExcC K A_BadTree
  su_BadTree : PySem.W.subIn K (.ref A_BadTree) (.ref A_HeadError) = some true
  kt_BadTree_BadBase : PySem.W.kitOne K (.ref A_BadTree) (.ref A_BadBase) = some false
  kt_BadTree_TooGreat : PySem.W.kitOne K (.ref A_BadTree) (.ref A_TooGreat) = some false
  ex_TooGreat : ExcC K A_TooGreat
  su_TooGreat : PySem.W.subIn K (.ref A_TooGreat) (.ref A_HeadError) = some true
  kt_TooGreat_BadBase : PySem.W.kitOne K (.ref A_TooGreat) (.ref A_BadBase) = some false
  kt_TooGreat_TooGreat : PySem.W.kitOne K (.ref A_TooGreat) (.ref A_TooGreat) = some true
  ex_BadWay : ExcC K A_BadWay
  su_BadWay : PySem.W.subIn K (.ref A_BadWay) (.ref A_HeadError) = some true
  kt_BadWay_BadBase : PySem.W.kitOne K (.ref A_BadWay) (.ref A_BadBase) = some false
  kt_BadWay_TooGreat : PySem.W.kitOne K (.ref A_BadWay) (.ref A_TooGreat) = some false
  ex_BadTimes : ExcC K A_BadTimes
  su_BadTimes : PySem.W.subIn K (.ref A_BadTimes) (.ref A_HeadError) = some true
  kt_BadTimes_BadBase : PySem.W.kitOne K (.ref A_BadTimes) (.ref A_BadBase) = some false
  kt_BadTimes_TooGreat : PySem.W.kitOne K (.ref A_BadTimes) (.ref A_TooGreat) = some false
  ex_BadBase : ExcC K A_BadBase
  su_BadBase : PySem.W.subIn K (.ref A_BadBase) (.ref A_HeadError) = some true
  kt_BadBase_BadBase : PySem.W.kitOne K (.ref A_BadBase) (.ref A_BadBase) = some true
  kt_BadBase_TooGreat : PySem.W.kitOne K (.ref A_BadBase) (.ref A_TooGreat) = some false
  ex_BadNumber : ExcC K A_BadNumber
  su_BadNumber : PySem.W.subIn K (.ref A_BadNumber) (.ref A_HeadError) = some true
  kt_BadNumber_BadBase : PySem.W.kitOne K (.ref A_BadNumber) (.ref A_BadBase) = some false
  kt_BadNumber_TooGreat : PySem.W.kitOne K (.ref A_BadNumber) (.ref A_TooGreat) = some false
  ex_BadText : ExcC K A_BadText
  su_BadText : PySem.W.subIn K (.ref A_BadText) (.ref A_HeadError) = some true
  kt_BadText_BadBase : PySem.W.kitOne K (.ref A_BadText) (.ref A_BadBase) = some false
  kt_BadText_TooGreat : PySem.W.kitOne K (.ref A_BadText) (.ref A_TooGreat) = some false
section
variable {P : Program} {w : World} {K : PySem.W.Frag} {mg : Str → Option Value} {base : Heap}
/-! ### copied -/
def spCopied (n : Nat) : Sp := fun vs H Q _ => ∃ (v : V) (t : Tt), vs = [v] ∧ TreeAt H v t ∧ fit t ∧ depth t < n ∧ ∀ H' r, New H H' r t → Q r H'
theorem depthL_le : ∀ {l : List Tt} {x : Tt}, x ∈ l → depth x + 1 ≤ depthL l
  | y :: l, x, h => by
    rw [depthL]
    rcases List.mem_cons.mp h with e | h
    · rw [e]; omega
    · have := depthL_le h; omega
theorem depth_bs {l : List Tt} {x : Tt} {n : Nat} (h : depth (.mk l) < n + 1) (hx : x ∈ l) : depth x < n := by
  rw [depth] at h
  have := depthL_le hx
  omega
theorem none_left {CX : CXT} {k : Nat} {f : Addr} {fd : FuncData} {ps : List Str} {sp : Sp} (no : ∀ vs H Q E, ¬ sp vs H Q E) : FnOk P w K mg base CX k f fd ps sp :=
  ⟨fun vs H Q E h => absurd h (no vs H Q E), fun A outer s H args us vs Q E _ _ _ _ h => absurd h (no vs H Q E)⟩
theorem take_more {α : Type} : ∀ {l : List α} {i : Nat} {x : α}, l[i]? = some x → l.take (i + 1) = l.take i ++ [x]
  | [], i, x, h => by simp at h
  | a :: l, 0, x, h => by
    have e : a = x := Option.some.inj (by simpa using h)
    subst e
    rfl
  | a :: l, i + 1, x, h => by
    have ih := take_more (l := l) (i := i) (x := x) (by simpa using h)
    rw [List.take_succ_cons, ih, List.take_succ_cons, List.cons_append]
theorem ok_copied (T : Txt K mg) : ∀ n, FnOk P w K mg base CX0 n T.a_copied T.d_copied ["tree"] (spCopied n)
  | 0 => none_left fun vs H Q E ⟨v, t, _, _, _, h, _⟩ => by omega
  | n + 1 => by
    have G_copied := ok_copied T n
    refine T.F_copied.ok sc_copied (fun vs H Q E h => ?_) (fun cdv A outer s H vs Q E hr h => ?_)
    · obtain ⟨v, t, rfl, _⟩ := h; rfl
    obtain ⟨v, ⟨bs⟩, rfl, ht, hf, hd, q⟩ := h
    have R_copied : Room n _ := hr
    rw [treeAt_mk] at ht
    obtain ⟨a, xs, rfl, ha, hbs⟩ := ht
    refine ⟨_, (pss_one (ps_ret (pe_lc (own := [("branch", 1)]) (g := gName 1) (tt := tYes) rfl sc_copied.nd (pi_list (pv 0)) (blkOk_by (own := [("branch", 1)]) (N := ["tree", "branch"]) (sc := defScope s_copied) (by decide +kernel)) (fun _ _ _ _ _ => (pg_name (i := 1) sc_copied.nd rfl (Or.inl rfl))) (fun _ _ _ _ _ => pts_nil) (fun _ _ _ _ _ => (pe_call G_copied R_copied rfl T.m_copied T.k_copied T.b_copied .nil pass0 (pa_cons (pv 1) pa_nil)))))), ?_⟩
    refine ⟨_, rfl, a, rfl, ⟨xs, SqL.of ha⟩, fun D nD => ?_⟩
    refine lc_list (K := K) (a := a) (xs := xs) (fun i H' => Grow H H' D (bs.take i)) (Grow.start nD) (fun i H' _ g => SqL.of (g.same _ _ ha)) (fun i x H' hx g => ?_) (fun H' g => ?_)
    · obtain ⟨b, hb, hxb⟩ := hbs.get hx
      have mb := List.mem_of_getElem? hb
      refine ⟨rfl, ?_⟩
      refine ⟨_, rfl, x, b, rfl, TreeAt.same g.same b hxb, fit_bs hf mb, depth_bs hd mb, fun H2 r nw => ?_⟩
      obtain ⟨acc, h1, h2, h3⟩ := g.more nw
      refine ⟨acc, h1, ?_, ?_⟩
      · rw [h2, List.length_take]
        exact lim_line (Nat.le_trans (Nat.min_le_right _ _) (fit_len hf))
      · rw [take_more hb]; exact h3
    · rw [hbs.len, List.take_length] at g
      exact q _ _ g.done
end
section
variable {P : Program} {w : World} {K : PySem.W.Frag} {mg : Str → Option Value} {base : Heap}
/-! ### compared -/
theorem drop_get {α : Type} {l : List α} {i : Nat} {x : α} (h : l[i]? = some x) : l.drop i = x :: l.drop (i + 1) := by
  obtain ⟨hi, e⟩ := List.getElem?_eq_some_iff.mp h
  rw [← e]
  exact List.drop_eq_getElem_cons hi
def spCompared (n : Nat) : Sp := fun vs H Q _ => ∃ (v u : V) (t s : Tt), vs = [v, u] ∧ TreeAt H v t ∧ TreeAt H u s ∧ depth t < n ∧ ∀ H', Same H H' → Q (.int (cmp t s)) H'
theorem cmpL_end : ∀ {i : Nat} {bs cs : List Tt}, i = min bs.length cs.length → cmpL (bs.drop i) (cs.drop i) = (bs.length : Int) - cs.length
  | 0, [], cs, _ => by rw [List.drop_zero, List.drop_zero, cmpL_nil]; simp
  | 0, x :: a, [], _ => by rw [List.drop_zero, List.drop_zero, cmpL_nil_r]; simp
  | 0, x :: a, y :: b, h => by simp only [List.length_cons] at h; omega
  | i + 1, [], cs, h => by simp at h
  | i + 1, x :: a, [], h => by simp at h
  | i + 1, x :: a, y :: b, h => by
    have ih := cmpL_end (i := i) (bs := a) (cs := b) (by simp only [List.length_cons] at h; omega)
    rw [List.drop_succ_cons, List.drop_succ_cons, ih, List.length_cons, List.length_cons]
    omega
theorem same_tup {H H' : Hp} {Tp : Addr} {o : HO} (s : Same H H') (h : H' Tp = none) : Same H (upd H' Tp o) := s.trans (same_new h o)
theorem ok_compared (T : Txt K mg) : ∀ n, FnOk P w K mg base CX0 n T.a_compared T.d_compared ["one", "other"] (spCompared n)
  | 0 => none_left fun vs H Q E ⟨v, u, t, s, _, _, _, h, _⟩ => by omega
  | n + 1 => by
    have G_compared := ok_compared T n
    refine T.F_compared.ok sc_compared (fun vs H Q E h => ?_) (fun cdv A outer s H vs Q E hr h => ?_)
    · obtain ⟨v, u, t, s, rfl, _⟩ := h; rfl
    obtain ⟨v, u, ⟨bs⟩, ⟨cs⟩, rfl, ht, hu, hd, q⟩ := h
    have R_compared : Room n _ := hr
    rw [treeAt_mk] at ht hu
    obtain ⟨a, xs, rfl, ha, hbs⟩ := ht
    obtain ⟨b, ys, rfl, hb, hcs⟩ := hu
    rw [cmp_mk] at q
    refine ⟨_, (pss_cons (ps_for PassesOwn.never rfl (pi_zip (by rfl) T.z_zip (pa_cons (pv 0) (pa_cons (pv 1) pa_nil))) (pg_tup rfl (pgs_cons (pg_name (i := 2) sc_compared.nd rfl (Or.inl rfl)) (pgs_cons (pg_name (i := 3) sc_compared.nd rfl (Or.inl rfl)) pgs_nil))) (pss_cons (ps_set (i := 4) sc_compared.nd rfl (Or.inl rfl) (pe_call G_compared R_compared rfl T.m_compared T.k_compared T.b_compared .nil pass0 (pa_cons (pv 2) (pa_cons (pv 3) pa_nil))))
        (pss_one (ps_if (pt_cmpR op_ne (pv 4) pe_int (nomark _)) (pss_one (ps_ret (pv 4))) pss_nil))))
      (pss_one (ps_ret (pe_op op_sub (pe_callB (r := rLenS K) call_len_seqK rfl T.z_len PySem.boot_len (pa_cons (pv 0) pa_nil)) (pe_callB (r := rLenS K) call_len_seqK rfl T.z_len PySem.boot_len (pa_cons (pv 1) pa_nil)))))), ?_⟩
    refine ⟨_, rfl, _, rfl, a, b, xs, ys, rfl, SqL.of ha, SqL.of hb, ?_⟩
    refine for_it (walk_zip rfl) (fun i σ H' => Same H H' ∧ cmpL bs cs = cmpL (bs.drop i) (cs.drop i) ∧ ∃ m th f, σ = [some (.ref a), some (.ref b), m, th, f]) ⟨Same.refl H, by simp, none, none, none, rfl⟩ (fun i σ H' _ p => ⟨SqL.of (p.1 _ _ ha), SqL.of (p.1 _ _ hb)⟩) ?_ ?_
    · rintro i x σ H1 H2 hi ⟨s1, e1, m, th, f, rfl⟩ ⟨Tp, x, y, rfl, nT, rfl, hx, hy⟩
      obtain ⟨t1, ht1, hxt⟩ := hbs.get hx
      obtain ⟨t2, ht2, hyt⟩ := hcs.get hy
      have s2 : Same H (upd H1 Tp (.tup [x, y])) := same_tup s1 nT
      refine ⟨Tp, [x, y], rfl, SqT.of upd_same, rfl, x, [y], rfl, y, [], rfl, rfl, ?_⟩
      refine ⟨_, rfl, _, rfl, x, y, t1, t2, rfl, TreeAt.same s2 _ hxt, TreeAt.same s2 _ hyt, depth_bs hd (List.mem_of_getElem? ht1), fun H3 s3 => ?_⟩
      rw [drop_get ht1, drop_get ht2, cmpL_cons] at e1
      refine ⟨_, rfl, rfl, _, rfl, ?_⟩
      refine ite2 (fun c => ?_) (fun c => ?_)
      · have c' : cmp t1 t2 ≠ 0 := fun z => by simp [z] at c
        rw [if_pos c'] at e1
        exact ⟨_, rfl, by rw [← e1]; exact q _ (s2.trans s3)⟩
      · have c' : ¬ cmp t1 t2 ≠ 0 := fun z => c (by simp [z])
        rw [if_neg c'] at e1
        exact ⟨s2.trans s3, e1, _, _, _, rfl⟩
    · rintro σ H1 ⟨s1, e1, m, th, f, rfl⟩
      refine ⟨_, rfl, a, _, rfl, .inl (SqL.of (s1 _ _ ha)), _, rfl, b, _, rfl, .inl (SqL.of (s1 _ _ hb)), _, _, rfl, rfl, ?_⟩
      rw [hbs.len, hcs.len] at e1
      show Q (.int ((xs.length : Int) - (ys.length : Int))) H1
      rw [hbs.len, hcs.len, ← cmpL_end rfl, ← e1]
      exact q _ s1
/-! ### merged -/
def spMerged (n : Nat) : Sp := fun vs H Q _ => ∃ (v u : V) (l m : List Tt), vs = [v, u] ∧ TreeAt H v (.mk l) ∧ TreeAt H u (.mk m) ∧ fitL l ∧ fitL m ∧ l.length + m.length ≤ lim ∧ (∀ x, x ∈ l → depth x < n) ∧ (∀ x, x ∈ m → depth x < n) ∧
  ∀ H' r, New H H' r (.mk (merge l m)) → Q r H'
theorem at_ix {xs : List V} {i : Nat} {x : V} (h : xs[i]? = some x) : atI xs (i : Int) = some x := atI_nat h
theorem merge_len (l m : List Tt) : (merge l m).length = l.length + m.length := by
  rw [(merge_perm l m).length_eq, List.length_append]
theorem merge_stepL {l m : List Tt} {i j : Nat} {x : Tt} (hx : l[i]? = some x) (h : j = m.length ∨ ∃ y, m[j]? = some y ∧ 0 ≤ cmp x y) : merge (l.drop i) (m.drop j) = x :: merge (l.drop (i + 1)) (m.drop j) := by
  rw [drop_get hx]
  rcases h with e | ⟨y, hy, c⟩
  · rw [e, List.drop_length, merge_nil_r, merge_nil_r]
  · rw [drop_get hy]
    conv => lhs; unfold merge
    rw [if_pos c]
theorem merge_stepR {l m : List Tt} {i j : Nat} {y : Tt} (hy : m[j]? = some y) (h : i = l.length ∨ ∃ x, l[i]? = some x ∧ cmp x y < 0) : merge (l.drop i) (m.drop j) = y :: merge (l.drop i) (m.drop (j + 1)) := by
  rcases h with e | ⟨x, hx, c⟩
  · rw [e, List.drop_length, drop_get hy]; simp [merge]
  · rw [drop_get hx, drop_get hy]
    conv => lhs; unfold merge
    rw [if_neg (by omega)]
theorem ok_merged (T : Txt K mg) (n : Nat) : FnOk P w K mg base CX0 (n + 1) T.a_merged T.d_merged ["one", "other"] (spMerged n) := by
  have G_compared := ok_compared (P := P) (w := w) (base := base) T n
  have G_copied := ok_copied (P := P) (w := w) (base := base) T n
  refine T.F_merged.ok sc_merged (fun vs H Q E h => ?_) (fun cdv A outer s H vs Q E hr h => ?_)
  · obtain ⟨v, u, l, m, rfl, _⟩ := h; rfl
  obtain ⟨v, u, l, m, rfl, ht, hu, fl, fm, hlen, dl, dm, q⟩ := h
  have R_compared : Room n _ := hr
  have R_copied : Room n _ := hr
  rw [treeAt_mk] at ht hu
  obtain ⟨a, xs, rfl, ha, hbs⟩ := ht
  obtain ⟨b, ys, rfl, hb, hcs⟩ := hu
  have el := hbs.len
  have em := hcs.len
  refine ⟨_, (pss_cons (ps_set (i := 2) sc_merged.nd rfl (Or.inl rfl) (pe_lst pa_nil))
      (pss_cons (ps_set (i := 3) sc_merged.nd rfl (Or.inl rfl) pe_int)
      (pss_cons (ps_set (i := 4) sc_merged.nd rfl (Or.inl rfl) pe_int)
      (pss_cons (ps_while PassesOwn.never (PW.pt (pw_or (pt_cmpR op_lt (pv 3) (pe_callB (r := rLenS K) call_len_seqK rfl T.z_len PySem.boot_len (pa_cons (pv 0) pa_nil)) (nomark _)) (pw_or1 (pt_cmpR op_lt (pv 4) (pe_callB (r := rLenS K) call_len_seqK rfl T.z_len PySem.boot_len (pa_cons (pv 1) pa_nil)) (nomark _))))) (pss_one (ps_if (PW.pt (pw_or (pt_cmpR op_eq (pv 4) (pe_callB (r := rLenS K) call_len_seqK rfl T.z_len PySem.boot_len (pa_cons (pv 1) pa_nil)) (nomark _)) (pw_or1 (PW.pt (pw_and (pt_cmpR op_lt (pv 3) (pe_callB (r := rLenS K) call_len_seqK rfl T.z_len PySem.boot_len (pa_cons (pv 0) pa_nil)) (nomark _)) (pw_and1 (pt_cmpR op_ge (pe_call G_compared R_compared rfl T.m_compared T.k_compared T.b_compared .nil pass0 (pa_cons (pe_ix (r := rIxL K) ix_list (pv 0) (pv 3) (fun _ _ => rfl)) (pa_cons (pe_ix (r := rIxL K) ix_list (pv 1) (pv 4) (fun _ _ => rfl)) pa_nil))) pe_int (nomark _)))))))) (pss_cons (ps_expr (pe_bm PySem.F.plainAttrs_list PySem.F.slot_list_append PySem.F.type_list_append mt_append (pv 2) (pa_cons (pe_call G_copied R_copied rfl T.m_copied T.k_copied T.b_copied .nil pass0 (pa_cons (pe_ix (r := rIxL K) ix_list (pv 0) (pv 3) (fun _ _ => rfl)) pa_nil)) pa_nil)))
          (pss_one (ps_set (i := 3) sc_merged.nd rfl (Or.inl rfl) (pe_op op_add (pv 3) pe_int)))) (pss_cons (ps_expr (pe_bm PySem.F.plainAttrs_list PySem.F.slot_list_append PySem.F.type_list_append mt_append (pv 2) (pa_cons (pe_call G_copied R_copied rfl T.m_copied T.k_copied T.b_copied .nil pass0 (pa_cons (pe_ix (r := rIxL K) ix_list (pv 1) (pv 4) (fun _ _ => rfl)) pa_nil)) pa_nil)))
          (pss_one (ps_set (i := 4) sc_merged.nd rfl (Or.inl rfl) (pe_op op_add (pv 4) pe_int)))))))
      (pss_one (ps_ret (pv 2))))))), ?_⟩
  refine ⟨(by show 0 ≤ sizeLine; decide), fun D nD => ?_⟩
  refine ⟨fun k σ H' => ∃ (i j : Nat) (ts : List Tt), σ = [some (.ref a), some (.ref b), some (.ref D), some (.int i), some (.int j)] ∧ k + i + j = l.length + m.length ∧ i ≤ l.length ∧ j ≤ m.length ∧ Grow H H' D ts ∧ merge l m = ts ++ merge (l.drop i) (m.drop j),
    ⟨l.length + m.length, 0, 0, [], rfl, rfl, Nat.zero_le _, Nat.zero_le _, Grow.start nD, rfl⟩, ?_⟩
  rintro k σ H1 ⟨i, j, ts, rfl, hk, hi, hj, g, e⟩
  have ha1 := g.same _ _ ha
  have hb1 := g.same _ _ hb
  have tl : ts.length + (l.length - i) + (m.length - j) = l.length + m.length := by
    have := congrArg List.length e
    rw [List.length_append, merge_len, merge_len, List.length_drop, List.length_drop] at this
    omega
  have goL : ∀ {x : Tt}, l[i]? = some x → ∃ xv, xs[i]? = some xv ∧ ∀ H2, Same H1 H2 → TreeAt H2 xv x ∧ H2 D = H1 D ∧ ∀ H3 r, New H2 H3 r x → ∃ acc, H3 D = some (.lst acc) ∧ acc.length < sizeLine ∧ Grow H (upd H3 D (.lst (acc ++ [r]))) D (ts ++ [x]) := fun {x} hx => by
    obtain ⟨xv, h1, h2⟩ := hbs.get' hx
    refine ⟨xv, h1, fun H2 s2 => ⟨TreeAt.same (g.same.trans s2) _ h2, ?_, fun H3 r nw => ?_⟩⟩
    · obtain ⟨acc, k1, _⟩ := g.at_
      rw [k1]; exact s2 _ _ k1
    obtain ⟨acc, k1, k2, k3⟩ := (g.step s2).more nw
    exact ⟨acc, k1, lim_line (by have := (List.getElem?_eq_some_iff.mp hx).1; omega), k3⟩
  have goR : ∀ {x : Tt}, m[j]? = some x → ∃ xv, ys[j]? = some xv ∧ ∀ H2, Same H1 H2 → TreeAt H2 xv x ∧ H2 D = H1 D ∧ ∀ H3 r, New H2 H3 r x → ∃ acc, H3 D = some (.lst acc) ∧ acc.length < sizeLine ∧ Grow H (upd H3 D (.lst (acc ++ [r]))) D (ts ++ [x]) := fun {x} hx => by
    obtain ⟨xv, h1, h2⟩ := hcs.get' hx
    refine ⟨xv, h1, fun H2 s2 => ⟨TreeAt.same (g.same.trans s2) _ h2, ?_, fun H3 r nw => ?_⟩⟩
    · obtain ⟨acc, k1, _⟩ := g.at_
      rw [k1]; exact s2 _ _ k1
    obtain ⟨acc, k1, k2, k3⟩ := (g.step s2).more nw
    exact ⟨acc, k1, lim_line (by have := (List.getElem?_eq_some_iff.mp hx).1; omega), k3⟩
  obtain ⟨acc0, hD1, _⟩ := g.at_
  -- near < len(one) or far < len(other)
  refine cut_t (fun b H2 => b = decide (i < l.length ∨ j < m.length) ∧ H2 = H1) (fun Q' hQ' => ?_) ?_
  · refine ⟨_, rfl, _, rfl, a, xs, rfl, .inl (SqL.of ha1), _, _, rfl, rfl, _, rfl, ?_⟩
    refine ite2 (fun c => ?_) (fun c => ?_)
    · refine hQ' _ _ ⟨?_, rfl⟩
      have c' : (i : Int) < (xs.length : Nat) := of_decide_eq_true c
      exact (decide_eq_true (by omega)).symm
    · have c' : ¬ (i : Int) < (xs.length : Nat) := of_decide_eq_false (Bool.eq_false_iff.mpr c)
      refine ⟨_, rfl, _, rfl, b, ys, rfl, .inl (SqL.of hb1), _, _, rfl, rfl, _, rfl, hQ' _ _ ⟨?_, rfl⟩⟩
      refine decide_eq_decide.mpr ?_
      omega
  rintro b2 H2 ⟨rfl, rfl⟩
  refine ite2 (fun c => ?_) (fun c => ?_)
  · have c' := of_decide_eq_true c
    refine ⟨fun σ' H' => ∃ m', m' < k ∧ ∃ (i j : Nat) (ts : List Tt), σ' = [some (.ref a), some (.ref b), some (.ref D), some (.int i), some (.int j)] ∧ m' + i + j = l.length + m.length ∧ i ≤ l.length ∧ j ≤ m.length ∧ Grow H H' D ts ∧ merge l m = ts ++ merge (l.drop i) (m.drop j), fun _ _ h => h, ?_⟩
    -- which one
    refine cut_if (fun b H3 => Same H2 H3 ∧ ((b = true ∧ ∃ x, l[i]? = some x ∧ merge (l.drop i) (m.drop j) = x :: merge (l.drop (i + 1)) (m.drop j)) ∨ (b = false ∧ ∃ x, m[j]? = some x ∧ merge (l.drop i) (m.drop j) = x :: merge (l.drop i) (m.drop (j + 1))))) (fun Q' hQ' => ?_) ?_
    · refine ⟨_, rfl, _, rfl, b, ys, rfl, .inl (SqL.of hb1), rfl, _, rfl, ?_⟩
      refine ite2 (fun c1 => ?_) (fun c1 => ?_)
      · have e1 : (V.int (j : Int)) = V.int ((ys.length : Nat) : Int) := of_decide_eq_true c1
        injection e1 with e1
        have hl : i < l.length := by omega
        exact hQ' _ _ ⟨Same.refl _, .inl ⟨rfl, _, List.getElem?_eq_getElem hl, merge_stepL (List.getElem?_eq_getElem hl) (.inl (by omega))⟩⟩
      · have e1 : ¬ (V.int (j : Int)) = V.int ((ys.length : Nat) : Int) := of_decide_eq_false (Bool.eq_false_iff.mpr c1)
        have hj2 : j < m.length := by
          have : ¬ j = ys.length := fun z => e1 (by rw [z])
          omega
        refine ⟨_, rfl, _, rfl, a, xs, rfl, .inl (SqL.of ha1), _, _, rfl, rfl, _, rfl, ?_⟩
        refine ite2 (fun c2 => ?_) (fun c2 => ?_)
        · have c3 : (i : Int) < ((xs.length : Nat) : Int) := of_decide_eq_true c2
          have hl : i < l.length := by omega
          obtain ⟨xv, hxv, htx⟩ := hbs.get' (List.getElem?_eq_getElem hl)
          obtain ⟨yv, hyv, hty⟩ := hcs.get' (List.getElem?_eq_getElem hj2)
          refine ⟨_, rfl, _, rfl, a, xs, _, _, rfl, rfl, SqL.of ha1, atI_nat hxv, _, rfl, _, rfl, b, ys, _, _, rfl, rfl, SqL.of hb1, atI_nat hyv, xv, yv, l[i], m[j], rfl, TreeAt.same g.same _ htx, TreeAt.same g.same _ hty, dl _ (List.getElem_mem hl), fun H3 s3 => ?_⟩
          refine ⟨_, _, rfl, rfl, _, rfl, ?_⟩
          by_cases cc : 0 ≤ cmp l[i] m[j]
          · exact hQ' _ _ ⟨s3, .inl ⟨decide_eq_true cc, _, List.getElem?_eq_getElem hl, merge_stepL (List.getElem?_eq_getElem hl) (.inr ⟨_, List.getElem?_eq_getElem hj2, cc⟩)⟩⟩
          · exact hQ' _ _ ⟨s3, .inr ⟨decide_eq_false cc, _, List.getElem?_eq_getElem hj2, merge_stepR (List.getElem?_eq_getElem hj2) (.inr ⟨_, List.getElem?_eq_getElem hl, by omega⟩)⟩⟩
        · have c3 : ¬ (i : Int) < ((xs.length : Nat) : Int) := of_decide_eq_false (Bool.eq_false_iff.mpr c2)
          exact hQ' _ _ ⟨Same.refl _, .inr ⟨rfl, _, List.getElem?_eq_getElem hj2, merge_stepR (List.getElem?_eq_getElem hj2) (.inl (by omega))⟩⟩
    · rintro b3 H3 ⟨s3, ⟨rfl, x, hx, hm⟩ | ⟨rfl, x, hx, hm⟩⟩
      · obtain ⟨xv, hxv, go⟩ := goL hx
        obtain ⟨htx, hD3, gr⟩ := go H3 s3
        refine iteT ⟨_, rfl, .inl ⟨rfl, _, SqL.of (hD3.trans hD1)⟩, _, rfl, _, rfl, a, xs, _, _, rfl, rfl, SqL.of (s3 _ _ ha1), atI_nat hxv, xv, x, rfl, htx, fitL_iff.mp fl _ (List.mem_of_getElem? hx), dl _ (List.mem_of_getElem? hx), fun H4 r nw => ?_⟩
        obtain ⟨acc, k1, k2, k3⟩ := gr H4 r nw
        refine ⟨D, acc, r, rfl, rfl, k1, k2, _, rfl, _, _, rfl, rfl, k - 1, ?_⟩
        have := (List.getElem?_eq_some_iff.mp hx).1
        refine ⟨by omega, i + 1, j, ts ++ [x], ?_, by omega, by omega, by omega, k3, by rw [e, hm]; simp⟩
        show [_, _, _, some (V.int ((i : Int) + 1)), _] = _
        congr 1
      · obtain ⟨xv, hxv, go⟩ := goR hx
        obtain ⟨htx, hD3, gr⟩ := go H3 s3
        refine iteF ⟨_, rfl, .inl ⟨rfl, _, SqL.of (hD3.trans hD1)⟩, _, rfl, _, rfl, b, ys, _, _, rfl, rfl, SqL.of (s3 _ _ hb1), atI_nat hxv, xv, x, rfl, htx, fitL_iff.mp fm _ (List.mem_of_getElem? hx), dm _ (List.mem_of_getElem? hx), fun H4 r nw => ?_⟩
        obtain ⟨acc, k1, k2, k3⟩ := gr H4 r nw
        refine ⟨D, acc, r, rfl, rfl, k1, k2, _, rfl, _, _, rfl, rfl, k - 1, ?_⟩
        have := (List.getElem?_eq_some_iff.mp hx).1
        refine ⟨by omega, i, j + 1, ts ++ [x], ?_, by omega, by omega, by omega, k3, by rw [e, hm]; simp⟩
        show [_, _, _, _, some (V.int ((j : Int) + 1))] = _
        congr 1
  · have c' : ¬ (i < l.length ∨ j < m.length) := of_decide_eq_false (Bool.eq_false_iff.mpr c)
    have e1 : i = l.length := by omega
    have e2 : j = m.length := by omega
    rw [e1, e2, List.drop_length, List.drop_length, merge_nil_r, List.append_nil] at e
    refine ⟨_, rfl, q _ _ ?_⟩
    rw [e]; exact g.done
end
section
variable {P : Program} {w : World} {K : PySem.W.Frag} {mg : Str → Option Value} {base : Heap}
/-! ### told_of -/
theorem toldL_len (l acc : List Tt) : (toldL acc l).length = acc.length + l.length := by
  rw [(toldL_perm l acc).length_eq, List.length_append, List.length_map]
theorem depthL_iff : ∀ {l : List Tt} {n : Nat}, depthL l ≤ n ↔ ∀ x, x ∈ l → depth x + 1 ≤ n
  | [], n => by simp [depthL]
  | x :: l, n => by
    rw [depthL]
    have ih := depthL_iff (l := l) (n := n)
    constructor
    · intro h y hy
      rcases List.mem_cons.mp hy with e | hy
      · rw [e]; omega
      · exact ih.mp (by omega) y hy
    · intro h
      have h1 := h x List.mem_cons_self
      have h2 := ih.mpr fun y hy => h y (List.mem_cons_of_mem _ hy)
      omega
theorem mem_toldL {l : List Tt} {x : Tt} (h : x ∈ toldL [] l) : ∃ y, y ∈ l ∧ x = told y := by
  have := (toldL_perm l []).mem_iff.mp h
  rw [List.nil_append] at this
  obtain ⟨y, hy, e⟩ := List.mem_map.mp this
  exact ⟨y, hy, e.symm⟩
theorem depth_told_le (t : Tt) : depth (told t) ≤ depth t := by
  induction t using Tt.ind with
  | h l ih =>
    rw [told_mk, depth, depth]
    refine depthL_iff.mpr fun x hx => ?_
    obtain ⟨y, hy, e⟩ := mem_toldL hx
    subst e
    have := ih y hy
    have := depthL_le hy
    omega
theorem fit_told (t : Tt) (h : fit t) : fit (told t) := by
  induction t using Tt.ind with
  | h l ih =>
    rw [told_mk, fit_mk]
    refine ⟨by rw [toldL_len]; have := fit_len h; simp only [List.length_nil]; omega, fitL_iff.mpr fun x hx => ?_⟩
    obtain ⟨y, hy, e⟩ := mem_toldL hx
    subst e
    exact ih y hy (fit_bs h hy)
theorem depth_told {t : Tt} {n : Nat} (h : depth t < n) : depth (told t) < n := Nat.lt_of_le_of_lt (depth_told_le t) h
theorem toldL_more {l : List Tt} {i : Nat} {b : Tt} (h : l[i]? = some b) : toldL [] (l.take (i + 1)) = merge (toldL [] (l.take i)) [told b] := by
  rw [take_more h, toldL_append, toldL_cons, toldL_nil, merge_one]
def spToldOf (n : Nat) : Sp := fun vs H Q _ => ∃ (v : V) (t : Tt), vs = [v] ∧ TreeAt H v t ∧ fit t ∧ depth t < n ∧ ∀ H' r, New H H' r (told t) → Q r H'
theorem ok_told_of (T : Txt K mg) : ∀ n, FnOk P w K mg base CX0 (n + 2) T.a_told_of T.d_told_of ["tree"] (spToldOf n)
  | 0 => none_left fun vs H Q E ⟨v, t, _, _, _, h, _⟩ => by omega
  | n + 1 => by
    have G_told_of := ok_told_of T n
    have G_merged := ok_merged (P := P) (w := w) (base := base) T n
    refine T.F_told_of.ok sc_told_of (fun vs H Q E h => ?_) (fun cdv A outer s H vs Q E hr h => ?_)
    · obtain ⟨v, t, rfl, _⟩ := h; rfl
    obtain ⟨v, ⟨bs⟩, rfl, ht, hf, hd, q⟩ := h
    have R_told_of : Room (n + 2) _ := hr
    have R_merged : Room (n + 1) _ := hr.mono (by omega)
    rw [treeAt_mk] at ht
    rw [told_mk] at q
    obtain ⟨a, xs, rfl, ha, hbs⟩ := ht
    have flen := fit_len hf
    refine ⟨_, (pss_cons (ps_set (i := 1) sc_told_of.nd rfl (Or.inl rfl) (pe_lst pa_nil))
      (pss_cons (ps_for PassesOwn.never rfl (pi_list (pv 0)) (pg_name (i := 2) sc_told_of.nd rfl (Or.inl rfl)) (pss_one (ps_set (i := 1) sc_told_of.nd rfl (Or.inl rfl) (pe_call G_merged R_merged rfl T.m_merged T.k_merged T.b_merged .nil pass0 (pa_cons (pv 1) (pa_cons (pe_lst (pa_cons (pe_call G_told_of R_told_of rfl T.m_told_of T.k_told_of T.b_told_of .nil pass0 (pa_cons (pv 2) pa_nil)) pa_nil)) pa_nil))))))
      (pss_one (ps_ret (pv 1))))), ?_⟩
    refine ⟨(by show 0 ≤ sizeLine; decide), fun D nD => ?_⟩
    refine ⟨_, rfl, a, rfl, ⟨xs, SqL.of (same_new nD _ _ _ ha)⟩, ?_⟩
    refine for_it (walk_list (xs := xs)) (fun i σ H' => ∃ r o, σ = [some (.ref a), some r, o] ∧ New H H' r (.mk (toldL [] (bs.take i)))) ⟨_, none, rfl, (Grow.start nD).done⟩ (fun i σ H' _ p => ?_) ?_ ?_
    · obtain ⟨r, o, _, nw⟩ := p
      exact SqL.of (nw.1 _ _ ha)
    · rintro i x σ H1 H2 hi ⟨r, o, rfl, nw⟩ ⟨rfl, hx⟩
      obtain ⟨b, hb, hxb⟩ := hbs.get hx
      have mb := List.mem_of_getElem? hb
      have hib := (List.getElem?_eq_some_iff.mp hb).1
      refine ⟨_, rfl, _, rfl, x, b, rfl, TreeAt.same nw.1 b hxb, fit_bs hf mb, depth_bs hd mb, fun H3 r2 nw2 => ?_⟩
      refine ⟨(by show 1 ≤ sizeLine; decide), fun p np => ?_⟩
      have s4 : Same H3 (upd H3 p (.lst [r2])) := same_new np _
      have fl1 : fitL (toldL [] (bs.take i)) := fitL_iff.mpr fun y hy => by
        obtain ⟨z, hz, e⟩ := mem_toldL hy
        rw [e]
        exact fit_told z (fit_bs hf (List.mem_of_mem_take hz))
      have dl1 : ∀ y, y ∈ toldL [] (bs.take i) → depth y < n := fun y hy => by
        obtain ⟨z, hz, e⟩ := mem_toldL hy
        rw [e]
        exact depth_told (depth_bs hd (List.mem_of_mem_take hz))
      refine ⟨r, .ref p, toldL [] (bs.take i), [told b], rfl, TreeAt.same (nw2.1.trans s4) _ nw.at_, ?_, fl1, ?_, ?_, dl1, ?_, fun H5 r3 nw3 => ?_⟩
      · rw [treeAt_mk]
        exact ⟨p, [r2], rfl, upd_same, TreesAt.one (TreeAt.same s4 _ nw2.at_)⟩
      · exact fitL_iff.mpr fun y hy => by
          rw [List.mem_singleton] at hy
          rw [hy]
          exact fit_told b (fit_bs hf mb)
      · rw [toldL_len, List.length_take, List.length_singleton, List.length_nil]
        omega
      · intro y hy
        rw [List.mem_singleton] at hy
        rw [hy]
        exact depth_told (depth_bs hd mb)
      · refine ⟨r3, some x, rfl, ?_⟩
        rw [toldL_more hb]
        exact nw3.of (nw.1.trans (nw2.1.trans s4))
    · rintro σ H1 ⟨r, o, rfl, nw⟩
      rw [hbs.len, List.take_length] at nw
      exact ⟨_, rfl, q _ _ nw⟩
/-! ### knots -/
def spKnots (n : Nat) : Sp := fun vs H Q _ => ∃ (v : V) (t : Tt), vs = [v] ∧ TreeAt H v t ∧ fit t ∧ depth t < n ∧ ∀ H', Same H H' → Q (.int (knots t)) H'
theorem knotsL_sum : ∀ l : List Tt, ((l.map fun x => (knots x : Int)).sum : Int) = knotsL l
  | [] => by simp [knotsL]
  | x :: l => by rw [List.map_cons, List.sum_cons, knotsL_sum l, knotsL]; omega
/-- a new list at D that holds what f says of the branches gone through -/
def Fill (H H' : Hp) (D : Addr) (vs : List V) : Prop := Same H H' ∧ H D = none ∧ H' D = some (.lst vs)
theorem Fill.start {H : Hp} {D : Addr} (h : H D = none) : Fill H (upd H D (.lst [])) D [] := ⟨same_new h _, h, upd_same⟩
theorem Fill.more {H H' H2 : Hp} {D : Addr} {vs : List V} {v : V} (g : Fill H H' D vs) (s : Same H' H2) : H2 D = some (.lst vs) ∧ Fill H (upd H2 D (.lst (vs ++ [v]))) D (vs ++ [v]) :=
  ⟨s _ _ g.2.2, fun b u q => by rw [upd_ne (ne_of_none q g.2.1)]; exact s _ _ (g.1 _ _ q), g.2.1, upd_same⟩
theorem ok_knots (T : Txt K mg) : ∀ n, FnOk P w K mg base CX0 n T.a_knots T.d_knots ["tree"] (spKnots n)
  | 0 => none_left fun vs H Q E ⟨v, t, _, _, _, h, _⟩ => by omega
  | n + 1 => by
    have G_knots := ok_knots T n
    refine T.F_knots.ok sc_knots (fun vs H Q E h => ?_) (fun cdv A outer s H vs Q E hr h => ?_)
    · obtain ⟨v, t, rfl, _⟩ := h; rfl
    obtain ⟨v, ⟨bs⟩, rfl, ht, hf, hd, q⟩ := h
    have R_knots : Room n _ := hr
    rw [treeAt_mk] at ht
    obtain ⟨a, xs, rfl, ha, hbs⟩ := ht
    refine ⟨_, (pss_one (ps_ret (pe_op op_add pe_int (pe_callB (r := rSum K) (cr_sum rfl) (by rfl) T.z_sum (by decide +kernel) (pa_cons (pe_lc (own := [("branch", 1)]) (g := gName 1) (tt := tYes) rfl sc_knots.nd (pi_list (pv 0)) (blkOk_by (own := [("branch", 1)]) (N := ["tree", "branch"]) (sc := defScope s_knots) (by decide +kernel)) (fun _ _ _ _ _ => (pg_name (i := 1) sc_knots.nd rfl (Or.inl rfl))) (fun _ _ _ _ _ => pts_nil) (fun _ _ _ _ _ => (pe_call G_knots R_knots rfl T.m_knots T.k_knots T.b_knots .nil pass0 (pa_cons (pv 1) pa_nil)))) pa_nil))))), ?_⟩
    refine ⟨_, rfl, a, rfl, ⟨xs, SqL.of ha⟩, fun D nD => ?_⟩
    refine lc_it (walk_list (xs := xs)) (fun i H' => Fill H H' D (((bs.take i).map fun x => (knots x : Int)).map V.int)) (Fill.start nD) (fun i H' _ g => SqL.of (g.1 _ _ ha)) ?_ ?_
    · rintro i x H1 H2 hi g ⟨rfl, hx⟩
      obtain ⟨b, hb, hxb⟩ := hbs.get hx
      have mb := List.mem_of_getElem? hb
      refine ⟨rfl, _, rfl, x, b, rfl, TreeAt.same g.1 b hxb, fit_bs hf mb, depth_bs hd mb, fun H3 s3 => ?_⟩
      obtain ⟨h1, h2⟩ := g.more (v := .int (knots b)) s3
      refine ⟨_, h1, ?_, ?_⟩
      · rw [List.length_map, List.length_map, List.length_take]
        exact lim_line (Nat.le_trans (Nat.min_le_right _ _) (fit_len hf))
      · rw [take_more hb, List.map_append, List.map_append]; exact h2
    · intro H1 g
      rw [hbs.len, List.take_length] at g
      refine ⟨D, _, rfl, SqL.of g.2.2, _, _, rfl, rfl, ?_⟩
      show Q (.int (1 + (bs.map fun x => (knots x : Int)).sum)) H1
      rw [knotsL_sum]
      have := q H1 g.1
      rw [knots] at this
      exact this
end
section
variable {P : Program} {w : World} {K : PySem.W.Frag} {mg : Str → Option Value} {base : Heap}
/-! ### is_tree -/
/-- all but l is kept -/
def Kept (l : Addr) (H H' : Hp) : Prop := ∀ b o, b ≠ l → H b = some o → H' b = some o
def spIsTree (n : Nat) : Sp := fun vs H Q _ => ∃ (H0 : Hp) (v : V) (th : Th) (d : Nat) (L : Int) (l : Addr), vs = [v, .int d, .ref l] ∧ ThAt H0 v th ∧ Same H0 H ∧ H0 l = none ∧ H l = some (.lst [.int L]) ∧ fitTh th ∧ 42 ≤ d + n ∧ d ≤ 41 ∧
  ∀ H', Kept l H H' → H' l = some (.lst [.int (isT th d L).2]) → Q (.bl (isT th d L).1) H'
theorem Kept.same {H0 H H' : Hp} {l : Addr} (k : Kept l H H') (s : Same H0 H) (n : H0 l = none) : Same H0 H' := fun b o e => k b o (ne_of_none e n) (s b o e)
theorem ok_is_tree (T : Txt K mg) : ∀ n, FnOk P w K mg base CX0 n T.a_is_tree T.d_is_tree ["thing", "depth", "left"] (spIsTree n)
  | 0 => none_left fun vs H Q E ⟨H0, v, th, d, L, l, _, _, _, _, _, _, h1, h2, _⟩ => by omega
  | n + 1 => by
    have G_is_tree := ok_is_tree T n
    refine T.F_is_tree.ok sc_is_tree (fun vs H Q E h => ?_) (fun cdv A outer s H vs Q E hr h => ?_)
    · obtain ⟨H0, v, th, d, L, l, rfl, _⟩ := h; rfl
    obtain ⟨H0, v, th, d, L, l, rfl, ht, s0, nl, hl, hf, hn, hd, q⟩ := h
    have R_is_tree : Room n _ := hr
    have ht1 := ThAt.same s0 th ht
    refine ⟨_, (pss_cons (ps_if (PW.pt (pw_or (pt_not (pt_val (pe_callB (r := rIsi K) call_isi (by rfl) T.z_isinstance (by decide +kernel) (pa_cons (pv 0) (pa_cons (pe_bltn (v := .ty "list") (u := .type "list") (by rfl) T.z_list (by decide +kernel) rfl) pa_nil))))) (pw_or (pt_cmpR op_gt (pv 1) (pe_glob (v := .int 40) rfl T.c_DEEPEST ⟨_, rfl⟩) (nomark _)) (pw_or1 (pt_cmpR op_lt (pe_ix (r := rIxL K) ix_list (pv 2) pe_int (fun _ _ => rfl)) pe_int (nomark _)))))) (pss_one (ps_ret pe_bl)) pss_nil)
      (pss_cons (ps_asg (pe_op op_sub (pe_ix (r := rIxL K) ix_list (pv 2) pe_int (fun _ _ => rfl)) pe_int) (pg_sub (pv 2) pe_int set_list))
      (pss_one (ps_ret (pe_callB (r := rAll K) (cr_all rfl) (by rfl) T.z_all (by decide +kernel) (pa_cons (pe_lc (own := [("branch", 3)]) (g := gName 3) (tt := tYes) rfl sc_is_tree.nd (pi_list (pv 0)) (blkOk_by (own := [("branch", 3)]) (N := ["thing", "depth", "left", "branch"]) (sc := defScope s_is_tree) (by decide +kernel)) (fun _ _ _ _ _ => (pg_name (i := 3) sc_is_tree.nd rfl (Or.inl rfl))) (fun _ _ _ _ _ => pts_nil) (fun _ _ _ _ _ => (pe_call G_is_tree R_is_tree rfl T.m_is_tree T.k_is_tree T.b_is_tree .nil pass0 (pa_cons (pv 3) (pa_cons (pe_op op_add (pv 1) pe_int) (pa_cons (pv 2) pa_nil)))))) pa_nil)))))), ?_⟩
    cases th with
    | no =>
      rw [thAt_no] at ht1
      obtain ⟨ty, h1, h2⟩ := Leaf.isi (K := K) ht1
      refine ⟨_, rfl, _, _, ty, _, false, rfl, ClsV.ty _, h1, h2, _, rfl, iteT ?_⟩
      refine iteT ?_
      rw [isT_no] at q
      exact q H (fun _ _ _ e => e) hl
    | li bs =>
      rw [thAt_li] at ht ht1
      obtain ⟨a, xs, rfl, ha0, hbs0⟩ := ht
      obtain ⟨a', xs', ea, ha, hbs⟩ := ht1
      cases ea
      have exs : xs' = xs := by have := s0 _ _ ha0; rw [this] at ha; injection ha with ha; injection ha with ha; exact ha.symm
      subst exs
      rw [fitTh_li] at hf
      obtain ⟨h1, h2⟩ := list_isi (K := K) ha
      refine ⟨_, rfl, _, _, _, _, true, rfl, ClsV.ty _, h1, h2, _, rfl, iteF ?_⟩
      refine cut_t (fun b H' => H' = H ∧ b = decide (40 < d ∨ L < 1)) (fun Q' hQ' => ?_) ?_
      · refine ⟨_, rfl, _, _, rfl, rfl, _, rfl, ?_⟩
        refine ite2 (fun c => ?_) (fun c => ?_)
        · have c' : (40 : Int) < (d : Int) := of_decide_eq_true c
          exact hQ' _ _ ⟨rfl, (decide_eq_true (by omega)).symm⟩
        · have c' : ¬ (40 : Int) < (d : Int) := of_decide_eq_false (Bool.eq_false_iff.mpr c)
          refine ⟨_, rfl, l, _, 0, _, rfl, rfl, SqL.of hl, rfl, _, _, rfl, rfl, _, rfl, hQ' _ _ ⟨rfl, ?_⟩⟩
          refine decide_eq_decide.mpr ?_
          omega
      rintro b1 H1 ⟨rfl, rfl⟩
      rw [isT_li] at q
      refine ite2 (fun c => ?_) (fun c => ?_)
      · rw [if_pos (of_decide_eq_true c)] at q
        exact q H1 (fun _ _ _ e => e) hl
      · have c' := of_decide_eq_false (Bool.eq_false_iff.mpr c)
        rw [if_neg c'] at q
        -- left[0] = left[0] - 1
        refine ⟨_, rfl, l, _, 0, _, rfl, rfl, SqL.of hl, rfl, _, _, rfl, rfl, _, rfl, l, _, 0, 0, rfl, rfl, hl, rfl, ?_⟩
        have k1 : Kept l H1 (upd H1 l (.lst ([V.int L].set 0 (.int (L - 1))))) := fun b o nb e => by rw [upd_ne nb]; exact e
        have l1 : (upd H1 l (.lst ([V.int L].set 0 (.int (L - 1))))) l = some (.lst [.int (L - 1)]) := upd_same
        generalize upd H1 l (.lst ([V.int L].set 0 (.int (L - 1)))) = H2 at k1 l1 ⊢
        have s2 : Same H0 H2 := k1.same s0 nl
        refine ⟨_, rfl, a, rfl, ⟨xs', SqL.of (s2 _ _ ha0)⟩, fun D nD => ?_⟩
        have nDl : D ≠ l := fun e => by rw [e, l1] at nD; cases nD
        refine lc_it (walk_list (xs := xs')) (fun i H' => Kept l H2 H' ∧ H' l = some (.lst [.int (isTl (bs.take i) (d + 1) (L - 1)).2]) ∧ H' D = some (.lst ((isTl (bs.take i) (d + 1) (L - 1)).1.map V.bl))) ?_ (fun i H' _ g => SqL.of (g.1.same s2 nl _ _ ha0)) ?_ ?_
        · refine ⟨fun b o nb e => by rw [upd_ne (ne_of_none e nD)]; exact e, ?_, ?_⟩
          · rw [upd_ne (Ne.symm nDl), List.take_zero, isTl_nil]; exact l1
          · rw [upd_same, List.take_zero, isTl_nil]; rfl
        · rintro i x H3 H4 hi ⟨g1, g2, g3⟩ ⟨rfl, hx⟩
          obtain ⟨b, hb, hxb⟩ := hbs0.get hx
          have mb := List.mem_of_getElem? hb
          have hib := (List.getElem?_eq_some_iff.mp hb).1
          refine ⟨rfl, _, rfl, _, rfl, _, _, rfl, rfl, _, rfl, H0, x, b, d + 1, _, l, rfl, hxb, g1.same s2 nl, nl, g2, fitThL_mem hf.2 b mb, by omega, by omega, fun H5 k5 l5 => ?_⟩
          refine ⟨_, k5 _ _ nDl g3, ?_, fun b o nb e => ?_, ?_, ?_⟩
          · rw [List.length_map, isTl_len, List.length_take]
            exact lim_line (by omega)
          · by_cases hD : b = D
            · rw [hD] at e; rw [nD] at e; cases e
            · rw [upd_ne hD]; exact k5 _ _ nb (g1 _ _ nb e)
          · rw [upd_ne (Ne.symm nDl), take_more hb, isTl_snoc]; exact l5
          · rw [upd_same, take_more hb, isTl_snoc, List.map_append]; rfl
        · rintro H3 ⟨g1, g2, g3⟩
          have e1 : bs.take xs'.length = bs := by rw [hbs.len, List.take_length]
          rw [e1] at g2 g3
          exact ⟨D, _, rfl, SqL.of g3, q H3 (fun b o nb e => g1 b o nb (k1 b o nb e)) g2⟩
/-! ### asked_tree -/
def spAskedTree (A : Addr) : Sp := fun vs H Q E => ∃ v, vs = [v] ∧ ((∃ t, TreeAt H v t ∧ okT t ∧ ∀ H', Same H H' → Q .non H') ∨ (Bad H v ∧ ∀ H', Same H H' → E (.ref A) none H'))
theorem ok_asked_tree (T : Txt K mg) : FnOk P w K mg base (L2N.CX P w) 43 T.a_asked_tree T.d_asked_tree ["tree"] (spAskedTree T.A_BadTree) := by
  have G_is_tree := ok_is_tree (P := P) (w := w) (base := base) T 42
  refine okN T.F_asked_tree sc_asked_tree (fun vs H Q E h => ?_) (fun cdv A outer s H vs Q E hr h => ?_)
  · obtain ⟨v, rfl, _⟩ := h; rfl
  obtain ⟨v, rfl, h⟩ := h
  have R_is_tree : Room 42 _ := hr
  refine ⟨_, (pss_one (ps_if (pt_not (pt_val (pe_call G_is_tree R_is_tree rfl T.m_is_tree T.k_is_tree T.b_is_tree .nil pass0 (pa_cons (pv 0) (pa_cons pe_int (pa_cons (pe_lst (pa_cons (pe_glob (v := .int 300) rfl T.c_MOST ⟨_, rfl⟩) pa_nil)) pa_nil)))))) (pss_one (L2N.ps_raise rfl (L2N.takes_of rfl rfl rfl rfl) (L2N.pmk_own PySem.F.excBase_ValueError T.x_BadTree T.g_BadTree T.k_BadTree (raises_own T.sb_BadTree T.tt_BadTree) (by exact rfl)))) pss_nil)), ?_⟩
  have sLen : ([V.int 300] : List V).length ≤ sizeLine := by decide
  rcases h with ⟨t, ht, ho, q⟩ | ⟨⟨th, ht, hf, hb⟩, q⟩
  · refine ⟨_, rfl, sLen, fun l nl => ?_⟩
    refine ⟨H, v, toTh t, 0, 300, l, rfl, TreeAt.th t ht, same_new nl _, nl, upd_same, fit_toTh t ho.fit, by omega, by omega, fun H' k1 k2 => ?_⟩
    have e := isT_tree t 0 300 ho.2 (by have := ho.1; omega)
    rw [e]
    refine ⟨_, rfl, iteF (q _ ?_)⟩
    exact k1.same (same_new nl _) nl
  · refine ⟨_, rfl, sLen, fun l nl => ?_⟩
    refine ⟨H, v, th, 0, 300, l, rfl, ht, same_new nl _, nl, upd_same, hf, by omega, by omega, fun H' k1 k2 => ?_⟩
    rw [hb]
    exact ⟨_, rfl, iteT (q _ (k1.same (same_new nl _) nl))⟩
end
section
variable {P : Program} {w : World} {K : PySem.W.Frag} {mg : Str → Option Value} {base : Heap}
/-! ### told -/
def spTold (A : Addr) : Sp := fun vs H Q E => ∃ v, vs = [v] ∧ ((∃ t, TreeAt H v t ∧ okT t ∧ ∀ H' r, New H H' r (told t) → Q r H') ∨ (Bad H v ∧ ∀ H', Same H H' → E (.ref A) none H'))
theorem ok_told (T : Txt K mg) : FnOk P w K mg base (L2N.CX P w) 44 T.a_told T.d_told ["tree"] (spTold T.A_BadTree) := by
  have G_asked_tree := ok_asked_tree (P := P) (w := w) (base := base) T
  have G_told_of := ok_told_of (P := P) (w := w) (base := base) T 41
  refine okN T.F_told sc_told (fun vs H Q E h => ?_) (fun cdv A outer s H vs Q E hr h => ?_)
  · obtain ⟨v, rfl, _⟩ := h; rfl
  obtain ⟨v, rfl, h⟩ := h
  have R_asked_tree : Room 43 _ := hr
  have R_told_of : Room 43 _ := hr
  refine ⟨_, (pss_cons (ps_expr (pe_call G_asked_tree R_asked_tree rfl T.m_asked_tree T.k_asked_tree T.b_asked_tree .nil (L2N.passes_call (L2N.takes_of rfl rfl rfl rfl) (fun _ _ _ _ h => h)) (pa_cons (pv 0) pa_nil)))
      (pss_one (ps_ret (pe_call G_told_of R_told_of rfl T.m_told_of T.k_told_of T.b_told_of .nil pass0 (pa_cons (pv 0) pa_nil))))), ?_⟩
  rcases h with ⟨t, ht, ho, q⟩ | ⟨hb, q⟩
  · refine ⟨_, rfl, v, rfl, .inl ⟨t, ht, ho, fun H1 s1 => ?_⟩⟩
    exact ⟨_, rfl, v, t, rfl, TreeAt.same s1 t ht, ho.fit, ho.dp, fun H2 r nw => q _ _ (nw.of s1)⟩
  · exact ⟨_, rfl, v, rfl, .inr ⟨hb, fun H1 s1 => q _ s1⟩⟩
/-! ### compare -/
def sgn (i : Int) : Int := if 0 < i then 1 else if i = 0 then 0 else -1
/-- the first one is none, or the second one -/
def Bad2 (H : Hp) (v u : V) : Prop := Bad H v ∨ ((∃ t, TreeAt H v t ∧ okT t) ∧ Bad H u)
def spCompare (A : Addr) : Sp := fun vs H Q E => ∃ v u, vs = [v, u] ∧ ((∃ t s, TreeAt H v t ∧ okT t ∧ TreeAt H u s ∧ okT s ∧ ∀ H', Same H H' → Q (.int (sgn (cmp (told t) (told s)))) H') ∨ (Bad2 H v u ∧ ∀ H', Same H H' → E (.ref A) none H'))
theorem ok_compare (T : Txt K mg) : FnOk P w K mg base (L2N.CX P w) 44 T.a_compare T.d_compare ["one", "other"] (spCompare T.A_BadTree) := by
  have G_asked_tree := ok_asked_tree (P := P) (w := w) (base := base) T
  have G_told_of := ok_told_of (P := P) (w := w) (base := base) T 41
  have G_compared := ok_compared (P := P) (w := w) (base := base) T 41
  refine okN T.F_compare sc_compare (fun vs H Q E h => ?_) (fun cdv A outer s H vs Q E hr h => ?_)
  · obtain ⟨v, u, rfl, _⟩ := h; rfl
  obtain ⟨v, u, rfl, h⟩ := h
  have R_asked_tree : Room 43 _ := hr
  have R_told_of : Room 43 _ := hr
  have R_compared : Room 41 _ := hr.mono (by omega)
  refine ⟨_, (pss_cons (ps_expr (pe_call G_asked_tree R_asked_tree rfl T.m_asked_tree T.k_asked_tree T.b_asked_tree .nil (L2N.passes_call (L2N.takes_of rfl rfl rfl rfl) (fun _ _ _ _ h => h)) (pa_cons (pv 0) pa_nil)))
      (pss_cons (ps_expr (pe_call G_asked_tree R_asked_tree rfl T.m_asked_tree T.k_asked_tree T.b_asked_tree .nil (L2N.passes_call (L2N.takes_of rfl rfl rfl rfl) (fun _ _ _ _ h => h)) (pa_cons (pv 1) pa_nil)))
      (pss_cons (ps_set (i := 2) sc_compare.nd rfl (Or.inl rfl) (pe_call G_compared R_compared rfl T.m_compared T.k_compared T.b_compared .nil pass0 (pa_cons (pe_call G_told_of R_told_of rfl T.m_told_of T.k_told_of T.b_told_of .nil pass0 (pa_cons (pv 0) pa_nil)) (pa_cons (pe_call G_told_of R_told_of rfl T.m_told_of T.k_told_of T.b_told_of .nil pass0 (pa_cons (pv 1) pa_nil)) pa_nil))))
      (pss_one (ps_ret (pe_ifExp (pt_cmpR op_gt (pv 2) pe_int (nomark _)) pe_int (pe_ifExp (pt_cmpR op_eq (pv 2) pe_int (nomark _)) pe_int (pe_un un_neg pe_int)))))))), ?_⟩
  rcases h with ⟨t, s, ht, ho, hs, hos, q⟩ | ⟨hb | ⟨⟨t, ht, ho⟩, hb⟩, q⟩
  · refine ⟨_, rfl, v, rfl, .inl ⟨t, ht, ho, fun H1 s1 => ?_⟩⟩
    refine ⟨_, rfl, u, rfl, .inl ⟨s, TreeAt.same s1 s hs, hos, fun H2 s2 => ?_⟩⟩
    have s12 := s1.trans s2
    refine ⟨_, rfl, v, t, rfl, TreeAt.same s12 t ht, ho.fit, ho.dp, fun H3 r3 n3 => ?_⟩
    refine ⟨_, rfl, u, s, rfl, TreeAt.same (s12.trans n3.1) s hs, hos.fit, hos.dp, fun H4 r4 n4 => ?_⟩
    refine ⟨r3, r4, told t, told s, rfl, TreeAt.same n4.1 _ n3.at_, n4.at_, depth_told ho.dp, fun H5 s5 => ?_⟩
    have z := q H5 (s12.trans (n3.1.trans (n4.1.trans s5)))
    unfold sgn at z
    refine ⟨_, rfl, _, _, rfl, rfl, _, rfl, ?_⟩
    refine ite2 (fun c => ?_) (fun c => ?_)
    · have c' : 0 < cmp (told t) (told s) := of_decide_eq_true c
      rw [if_pos c'] at z
      exact z
    · have c' : ¬ 0 < cmp (told t) (told s) := of_decide_eq_false (Bool.eq_false_iff.mpr c)
      rw [if_neg c'] at z
      refine ⟨_, rfl, rfl, _, rfl, ?_⟩
      refine ite2 (fun c => ?_) (fun c => ?_)
      · have c2 : V.int (cmp (told t) (told s)) = V.int 0 := of_decide_eq_true c
        injection c2 with c2
        rw [if_pos c2] at z
        exact z
      · have c2 : ¬ V.int (cmp (told t) (told s)) = V.int 0 := of_decide_eq_false (Bool.eq_false_iff.mpr c)
        rw [if_neg (fun e => c2 (by rw [e]))] at z
        exact ⟨_, rfl, z⟩
  · exact ⟨_, rfl, v, rfl, .inr ⟨hb, fun H1 s1 => q _ s1⟩⟩
  · refine ⟨_, rfl, v, rfl, .inl ⟨t, ht, ho, fun H1 s1 => ?_⟩⟩
    exact ⟨_, rfl, u, rfl, .inr ⟨hb.same s1, fun H2 s2 => q _ (s1.trans s2)⟩⟩
/-! ### asked_great -/
def spAskedGreat (A : Addr) : Sp := fun vs H Q E => ∃ v t, vs = [v] ∧ TreeAt H v t ∧ fit t ∧ depth t ≤ 40 ∧ (knots t ≤ 300 → ∀ H', Same H H' → Q v H') ∧ (300 < knots t → ∀ H', Same H H' → E (.ref A) none H')
theorem ok_asked_great (T : Txt K mg) : FnOk P w K mg base (L2N.CX P w) 42 T.a_asked_great T.d_asked_great ["tree"] (spAskedGreat T.A_TooGreat) := by
  have G_knots := ok_knots (P := P) (w := w) (base := base) T 41
  refine okN T.F_asked_great sc_asked_great (fun vs H Q E h => ?_) (fun cdv A outer s H vs Q E hr h => ?_)
  · obtain ⟨v, t, rfl, _⟩ := h; rfl
  obtain ⟨v, t, rfl, ht, hf, hd, q1, q2⟩ := h
  have R_knots : Room 41 _ := hr
  refine ⟨_, (pss_cons (ps_if (pt_cmpR op_gt (pe_call G_knots R_knots rfl T.m_knots T.k_knots T.b_knots .nil pass0 (pa_cons (pv 0) pa_nil)) (pe_glob (v := .int 300) rfl T.c_MOST ⟨_, rfl⟩) (nomark _)) (pss_one (L2N.ps_raise rfl (L2N.takes_of rfl rfl rfl rfl) (L2N.pmk_own PySem.F.excBase_ValueError T.x_TooGreat T.g_TooGreat T.k_TooGreat (raises_own T.sb_TooGreat T.tt_TooGreat) (by exact rfl)))) pss_nil)
      (pss_one (ps_ret (pv 0)))), ?_⟩
  refine ⟨_, rfl, v, t, rfl, ht, hf, by omega, fun H1 s1 => ?_⟩
  refine ⟨_, _, rfl, rfl, _, rfl, ?_⟩
  refine ite2 (fun c => ?_) (fun c => ?_)
  · have c' : (300 : Int) < (knots t : Int) := of_decide_eq_true c
    exact q2 (by omega) _ s1
  · have c' : ¬ (300 : Int) < (knots t : Int) := of_decide_eq_false (Bool.eq_false_iff.mpr c)
    exact ⟨_, rfl, q1 (by omega) _ s1⟩
/-! ### together -/
/-- two trees -/
def spTwo (A B : Addr) (f : List Tt → List Tt → List Tt) : Sp := fun vs H Q E => ∃ v u, vs = [v, u] ∧
  ((∃ l m, TreeAt H v (.mk l) ∧ okT (.mk l) ∧ TreeAt H u (.mk m) ∧ okT (.mk m) ∧ (knots (.mk (f l m)) ≤ 300 → ∀ H' r, New H H' r (.mk (f l m)) → Q r H') ∧ (300 < knots (.mk (f l m)) → ∀ H', Same H H' → E (.ref B) none H')) ∨ (Bad2 H v u ∧ ∀ H', Same H H' → E (.ref A) none H'))
theorem merge_mem {l m : List Tt} {x : Tt} (h : x ∈ merge l m) : x ∈ l ∨ x ∈ m := List.mem_append.mp ((merge_perm l m).mem_iff.mp h)
theorem depth_mk_of {l : List Tt} {n : Nat} (h : ∀ x, x ∈ l → depth x < n) : depth (.mk l) ≤ n := by rw [depth]; exact depthL_iff.mpr h
theorem fit_mk_of {l : List Tt} (h : ∀ x, x ∈ l → fit x) (hl : l.length ≤ lim) : fit (.mk l) := by rw [fit_mk]; exact ⟨hl, fitL_iff.mpr h⟩
theorem toldB_depth {l : List Tt} {n : Nat} (h : depth (.mk l) ≤ n) : ∀ x, x ∈ toldL [] l → depth x < n := fun x hx => by
  obtain ⟨y, hy, e⟩ := mem_toldL hx
  rw [e]
  rw [depth] at h
  have := depthL_le hy
  exact depth_told (by omega)
theorem toldB_fit {l : List Tt} (h : fit (.mk l)) : ∀ x, x ∈ toldL [] l → fit x := fun x hx => by
  obtain ⟨y, hy, e⟩ := mem_toldL hx
  rw [e]
  exact fit_told y (fit_bs h hy)
theorem okT_len {l : List Tt} (h : okT (.mk l)) : (toldL [] l).length ≤ 300 := by
  have h1 := h.1
  rw [knots] at h1
  have := knotsL_len l
  rw [toldL_len]
  simp only [List.length_nil]
  omega
theorem ok_together (T : Txt K mg) : FnOk P w K mg base (L2N.CX P w) 44 T.a_together T.d_together ["one", "other"] (spTwo T.A_BadTree T.A_TooGreat fun l m => merge (toldL [] l) (toldL [] m)) := by
  have G_asked_tree := ok_asked_tree (P := P) (w := w) (base := base) T
  have G_asked_great := ok_asked_great (P := P) (w := w) (base := base) T
  have G_told_of := ok_told_of (P := P) (w := w) (base := base) T 41
  have G_merged := ok_merged (P := P) (w := w) (base := base) T 40
  refine okN T.F_together sc_together (fun vs H Q E h => ?_) (fun cdv A outer s H vs Q E hr h => ?_)
  · obtain ⟨v, u, rfl, _⟩ := h; rfl
  obtain ⟨v, u, rfl, h⟩ := h
  have R_asked_tree : Room 43 _ := hr
  have R_told_of : Room 43 _ := hr
  have R_asked_great : Room 42 _ := hr.mono (by omega)
  have R_merged : Room 41 _ := hr.mono (by omega)
  refine ⟨_, (pss_cons (ps_expr (pe_call G_asked_tree R_asked_tree rfl T.m_asked_tree T.k_asked_tree T.b_asked_tree .nil (L2N.passes_call (L2N.takes_of rfl rfl rfl rfl) (fun _ _ _ _ h => h)) (pa_cons (pv 0) pa_nil)))
      (pss_cons (ps_expr (pe_call G_asked_tree R_asked_tree rfl T.m_asked_tree T.k_asked_tree T.b_asked_tree .nil (L2N.passes_call (L2N.takes_of rfl rfl rfl rfl) (fun _ _ _ _ h => h)) (pa_cons (pv 1) pa_nil)))
      (pss_one (ps_ret (pe_call G_asked_great R_asked_great rfl T.m_asked_great T.k_asked_great T.b_asked_great .nil (L2N.passes_call (L2N.takes_of rfl rfl rfl rfl) (fun _ _ _ _ h => h)) (pa_cons (pe_call G_merged R_merged rfl T.m_merged T.k_merged T.b_merged .nil pass0 (pa_cons (pe_call G_told_of R_told_of rfl T.m_told_of T.k_told_of T.b_told_of .nil pass0 (pa_cons (pv 0) pa_nil)) (pa_cons (pe_call G_told_of R_told_of rfl T.m_told_of T.k_told_of T.b_told_of .nil pass0 (pa_cons (pv 1) pa_nil)) pa_nil))) pa_nil)))))), ?_⟩
  rcases h with ⟨l, m, ht, ho, hs, hos, q1, q2⟩ | ⟨hb | ⟨⟨t, ht, ho⟩, hb⟩, q⟩
  · refine ⟨_, rfl, v, rfl, .inl ⟨_, ht, ho, fun H1 s1 => ?_⟩⟩
    refine ⟨_, rfl, u, rfl, .inl ⟨_, TreeAt.same s1 _ hs, hos, fun H2 s2 => ?_⟩⟩
    have s12 := s1.trans s2
    refine ⟨_, rfl, v, _, rfl, TreeAt.same s12 _ ht, ho.fit, ho.dp, fun H3 r3 n3 => ?_⟩
    refine ⟨_, rfl, u, _, rfl, TreeAt.same (s12.trans n3.1) _ hs, hos.fit, hos.dp, fun H4 r4 n4 => ?_⟩
    rw [told_mk] at n3 n4
    have f1 := toldB_fit ho.fit
    have f2 := toldB_fit hos.fit
    have d1 := toldB_depth ho.2
    have d2 := toldB_depth hos.2
    have e1 := okT_len ho
    have e2 := okT_len hos
    refine ⟨r3, r4, _, _, rfl, TreeAt.same n4.1 _ n3.at_, n4.at_, fitL_iff.mpr f1, fitL_iff.mpr f2, ?_, d1, d2, fun H5 r5 n5 => ?_⟩
    · exact Nat.le_trans (Nat.add_le_add e1 e2) (by decide)
    have n05 : New H H5 r5 _ := n5.of (s12.trans (n3.1.trans n4.1))
    refine ⟨r5, _, rfl, n5.at_, ?_, ?_, fun hk H6 s6 => q1 hk _ _ (n05.step s6), fun hk H6 s6 => q2 hk _ (n05.1.trans s6)⟩
    · refine fit_mk_of (fun x hx => (merge_mem hx).elim (f1 x) (f2 x)) ?_
      rw [merge_len]
      exact Nat.le_trans (Nat.add_le_add e1 e2) (by decide)
    · exact depth_mk_of fun x hx => (merge_mem hx).elim (d1 x) (d2 x)
  · exact ⟨_, rfl, v, rfl, .inr ⟨hb, fun H1 s1 => q _ s1⟩⟩
  · refine ⟨_, rfl, v, rfl, .inl ⟨t, ht, ho, fun H1 s1 => ?_⟩⟩
    exact ⟨_, rfl, u, rfl, .inr ⟨hb.same s1, fun H2 s2 => q _ (s1.trans s2)⟩⟩
end
section
variable {P : Program} {w : World} {K : PySem.W.Frag} {mg : Str → Option Value} {base : Heap}
/-! ### behind -/
/-- the branches of l that are worth no less than all of m, then m's -/
def keepq (m : List Tt) (x : Tt) : Bool := match m with | [] => true | y :: _ => decide (0 ≤ cmp x y)
def keepB (l m : List Tt) : List Tt := l.filter (keepq m)
def behindL (l m : List Tt) : List Tt := keepB l m ++ m
theorem keepB_mem {l m : List Tt} {x : Tt} (h : x ∈ keepB l m) : x ∈ l := (List.mem_filter.mp h).1
theorem keepB_snoc (l m : List Tt) (x : Tt) : keepB (l ++ [x]) m = if keepq m x = true then keepB l m ++ [x] else keepB l m := by
  unfold keepB
  rw [List.filter_append]
  by_cases h : keepq m x = true
  · rw [if_pos h, List.filter_cons_of_pos h, List.filter_nil]
  · rw [if_neg h, List.filter_cons_of_neg h, List.filter_nil, List.append_nil]
/-- some of the branches of an owned list, in turn: owned alike -/
inductive Some_ (p : Tt → Bool) : List V → List Tt → List V → List Tt → Prop where
  | nil : Some_ p [] [] [] []
  | yes {v : V} {t : Tt} {vs ws : List V} {ts us : List Tt} (h : p t = true) (r : Some_ p vs ts ws us) : Some_ p (v :: vs) (t :: ts) (v :: ws) (t :: us)
  | no {v : V} {t : Tt} {vs ws : List V} {ts us : List Tt} (h : p t = false) (r : Some_ p vs ts ws us) : Some_ p (v :: vs) (t :: ts) ws us
theorem Some_.snoc {p : Tt → Bool} {v : V} {t : Tt} {vs ws : List V} {ts us : List Tt} (r : Some_ p vs ts ws us) : Some_ p (vs ++ [v]) (ts ++ [t]) (if p t = true then ws ++ [v] else ws) (if p t = true then us ++ [t] else us) := by
  induction r with
  | nil =>
    by_cases h : p t = true
    · rw [if_pos h, if_pos h]; exact .yes h .nil
    · rw [if_neg h, if_neg h]; exact .no (Bool.eq_false_iff.mpr h) .nil
  | yes h r ih =>
    by_cases h2 : p t = true
    · rw [if_pos h2, if_pos h2] at ih ⊢; exact .yes h ih
    · rw [if_neg h2, if_neg h2] at ih ⊢; exact .yes h ih
  | no h r ih => exact .no h ih
theorem Some_.len {p : Tt → Bool} {vs ws : List V} {ts us : List Tt} (r : Some_ p vs ts ws us) : ws.length ≤ vs.length := by
  induction r with
  | nil => exact Nat.le_refl _
  | yes h r ih => simp only [List.length_cons]; omega
  | no h r ih => simp only [List.length_cons]; omega
theorem Some_.owns {H : Hp} {p : Tt → Bool} {vs ws : List V} {ts us : List Tt} (r : Some_ p vs ts ws us) : ∀ {as : List Addr}, Owns H vs ts as → ∃ bs, Owns H ws us bs ∧ bs.Sublist as := by
  induction r with
  | nil => intro as h; exact ⟨as, h, List.Sublist.refl _⟩
  | yes h r ih =>
    intro as o
    rw [owns_cons] at o
    obtain ⟨v', vs', a1, a2, e, rfl, o1, o2⟩ := o
    injection e with e1 e2
    subst e1 e2
    obtain ⟨bs, o3, sb⟩ := ih o2
    exact ⟨a1 ++ bs, by rw [owns_cons]; exact ⟨_, _, a1, bs, rfl, rfl, o1, o3⟩, sb.append_left a1⟩
  | no h r ih =>
    intro as o
    rw [owns_cons] at o
    obtain ⟨v', vs', a1, a2, e, rfl, o1, o2⟩ := o
    injection e with e1 e2
    subst e1 e2
    obtain ⟨bs, o3, sb⟩ := ih o2
    exact ⟨bs, o3, sb.trans (List.sublist_append_right _ _)⟩
theorem Some_.us {p : Tt → Bool} {vs ws : List V} {ts us : List Tt} (r : Some_ p vs ts ws us) : us = ts.filter p := by
  induction r with
  | nil => rfl
  | yes h r ih => rw [List.filter_cons_of_pos h, ih]
  | no h r ih => rw [List.filter_cons_of_neg (by simp [h]), ih]
theorem atI_zero {α : Type} {x : α} {xs : List α} : atI (x :: xs) 0 = some x := by
  have h : atI (x :: xs) ((0 : Nat) : Int) = some x := atI_nat rfl
  exact h
theorem ok_behind (T : Txt K mg) : FnOk P w K mg base (L2N.CX P w) 44 T.a_behind T.d_behind ["one", "other"] (spTwo T.A_BadTree T.A_TooGreat fun l m => behindL (toldL [] l) (toldL [] m)) := by
  have G_asked_tree := ok_asked_tree (P := P) (w := w) (base := base) T
  have G_asked_great := ok_asked_great (P := P) (w := w) (base := base) T
  have G_told_of := ok_told_of (P := P) (w := w) (base := base) T 41
  have G_compared := ok_compared (P := P) (w := w) (base := base) T 41
  refine okN T.F_behind sc_behind (fun vs H Q E h => ?_) (fun cdv A outer s H vs Q E hr h => ?_)
  · obtain ⟨v, u, rfl, _⟩ := h; rfl
  obtain ⟨v, u, rfl, h⟩ := h
  have R_asked_tree : Room 43 _ := hr
  have R_told_of : Room 43 _ := hr
  have R_asked_great : Room 42 _ := hr.mono (by omega)
  have R_compared : Room 41 _ := hr.mono (by omega)
  have hu64 := hr.units
  refine ⟨_, (pss_cons (ps_expr (pe_call G_asked_tree R_asked_tree rfl T.m_asked_tree T.k_asked_tree T.b_asked_tree .nil (L2N.passes_call (L2N.takes_of rfl rfl rfl rfl) (fun _ _ _ _ h => h)) (pa_cons (pv 0) pa_nil)))
      (pss_cons (ps_expr (pe_call G_asked_tree R_asked_tree rfl T.m_asked_tree T.k_asked_tree T.b_asked_tree .nil (L2N.passes_call (L2N.takes_of rfl rfl rfl rfl) (fun _ _ _ _ h => h)) (pa_cons (pv 1) pa_nil)))
      (pss_cons (ps_set (i := 2) sc_behind.nd rfl (Or.inr rfl) (pe_call G_told_of R_told_of rfl T.m_told_of T.k_told_of T.b_told_of .nil pass0 (pa_cons (pv 1) pa_nil)))
      (pss_cons (ps_setLc (i := 3) (own := [("branch", 4)]) (g := gName 4)  rfl sc_behind.nd rfl rfl (sw_true rfl rfl rfl (by decide +kernel)) (pi_list (pe_call G_told_of R_told_of rfl T.m_told_of T.k_told_of T.b_told_of .nil pass0 (pa_cons (pv 0) pa_nil))) (blkOk_by (own := [("branch", 4)]) (N := ["one", "other", "second", "first", "branch"]) (sc := defScope s_behind) (by decide +kernel)) (fun _ _ _ _ _ => (pg_name (i := 4) sc_behind.nd rfl (Or.inl rfl))) (fun _ _ _ _ _ => (pts_one (PW.pt (pw_or (pt_cmpR (r := rEqD K) (op_eqD hu64) (pv 2) (pe_lst pa_nil) (nomark _)) (pw_or1 (pt_cmpR op_ge (pe_call G_compared R_compared rfl T.m_compared T.k_compared T.b_compared .nil pass0 (pa_cons (pv 4) (pa_cons (pe_ix (r := rIxL K) ix_list (pv 2) pe_int (fun _ _ => rfl)) pa_nil))) pe_int (nomark _))))))) (fun _ _ _ _ _ => (pv 4)))
      (pss_one (ps_ret (pe_call G_asked_great R_asked_great rfl T.m_asked_great T.k_asked_great T.b_asked_great .nil (L2N.passes_call (L2N.takes_of rfl rfl rfl rfl) (fun _ _ _ _ h => h)) (pa_cons (pe_op op_cat (pv 3) (pv 2)) pa_nil)))))))), ?_⟩
  rcases h with ⟨l0, m0, ht, ho, hs, hos, q1, q2⟩ | ⟨hb | ⟨⟨t, ht, ho⟩, hb⟩, q⟩
  · refine ⟨_, rfl, v, rfl, .inl ⟨_, ht, ho, fun H1 s1 => ?_⟩⟩
    refine ⟨_, rfl, u, rfl, .inl ⟨_, TreeAt.same s1 _ hs, hos, fun H2 s2 => ?_⟩⟩
    have s12 := s1.trans s2
    refine ⟨_, rfl, u, _, rfl, TreeAt.same s12 _ hs, hos.fit, hos.dp, fun H3 r3 n3 => ?_⟩
    refine ⟨_, rfl, v, _, rfl, TreeAt.same (s12.trans n3.1) _ ht, ho.fit, ho.dp, fun H4 r4 n4 => ?_⟩
    rw [told_mk] at n3 n4
    have f1 := toldB_fit ho.fit
    have f2 := toldB_fit hos.fit
    have d1 := toldB_depth ho.2
    have d2 := toldB_depth hos.2
    have e1 := okT_len ho
    have e2 := okT_len hos
    replace q1 : knots (.mk (behindL (toldL [] l0) (toldL [] m0))) ≤ 300 → ∀ H' r, New H H' r (.mk (behindL (toldL [] l0) (toldL [] m0))) → Q r H' := q1
    replace q2 : 300 < knots (.mk (behindL (toldL [] l0) (toldL [] m0))) → ∀ H', Same H H' → E (.ref T.A_TooGreat) none H' := q2
    generalize toldL [] l0 = l at n4 f1 d1 e1 q1 q2
    generalize toldL [] m0 = m at n3 f2 d2 e2 q1 q2
    obtain ⟨s23, as3, o3, nd3, fr3⟩ := n3
    obtain ⟨s34, as4, o4, nd4, fr4⟩ := n4
    rw [own_mk] at o3 o4
    obtain ⟨b, ys, bs3, rfl, rfl, hb3, ow3⟩ := o3
    obtain ⟨a, xs, bs4, rfl, rfl, ha4, ow4⟩ := o4
    have ht4 := Owns.at_ l ow4
    have ht3 := TreesAt.same s34 m (Owns.at_ m ow3)
    have hb4 := s34 _ _ hb3
    refine ⟨a, rfl, ⟨xs, SqL.of ha4⟩, fun D nD => ?_⟩
    -- first = [branch for branch in told_of(one) if ..]
    refine lc_it (walk_list (xs := xs)) (fun i H' => Same H4 H' ∧ ∃ acc us, H' D = some (.lst acc) ∧ Some_ (keepq m) (xs.take i) (l.take i) acc us) ⟨same_new nD _, [], [], upd_same, .nil⟩ (fun i H' _ g => SqL.of (g.1 _ _ ha4)) ?_ ?_
    · rintro i x H5 H6 hi ⟨s5, acc, us, hD, sm⟩ ⟨rfl, hx⟩
      obtain ⟨t, htl, hxt⟩ := ht4.get hx
      have sn := sm.snoc (v := x) (t := t)
      rw [← take_more hx, ← take_more htl] at sn
      have zl : acc.length < sizeLine := lim_line (by
        have h1 := sm.len
        rw [List.length_take] at h1
        have h2 := ht4.len
        have h3 : (300 : Nat) ≤ lim := by decide
        omega)
      refine ⟨rfl, ?_⟩
      -- second == [] or compared(branch, second[0]) >= 0
      refine cut_t (fun b H' => Same H6 H' ∧ b = keepq m t) (fun Q' hQ' => ?_) ?_
      · refine ⟨_, rfl, (by show 0 ≤ sizeLine; decide), fun p np => ?_⟩
        have sp := same_new np (.lst [])
        have hm1 : TreeAt (upd H6 p (.lst [])) (.ref b) (.mk m) := by rw [treeAt_mk]; exact ⟨b, ys, rfl, sp _ _ (s5 _ _ hb4), TreesAt.same sp _ (TreesAt.same s5 _ ht3)⟩
        refine eq_trees hm1 (nil_tree upd_same) (Nat.le_trans (depth_mk_of d2) (by decide)) (by rw [depth, depthL]; decide) ⟨_, rfl, ?_⟩
        refine ite2 (fun c => ?_) (fun c => ?_)
        · have c' : Tt.mk m = Tt.mk [] := of_decide_eq_true c
          injection c' with c'
          exact hQ' _ _ ⟨sp, by rw [c']; rfl⟩
        · have c' : ¬ Tt.mk m = Tt.mk [] := of_decide_eq_false (Bool.eq_false_iff.mpr c)
          cases m with
          | nil => exact absurd rfl c'
          | cons y m' =>
            rw [treesAt_cons] at ht3
            obtain ⟨yv, ys', rfl, hy1, _⟩ := ht3
            refine ⟨_, rfl, _, rfl, b, _, 0, yv, rfl, rfl, SqL.of (sp _ _ (s5 _ _ hb4)), atI_zero, x, yv, t, y, rfl, TreeAt.same (s5.trans sp) _ hxt, TreeAt.same (s5.trans sp) _ hy1, Nat.lt_succ_of_lt (d1 t (List.mem_of_getElem? htl)), fun H7 s7 => ?_⟩
            exact ⟨_, _, rfl, rfl, _, rfl, hQ' _ _ ⟨sp.trans s7, rfl⟩⟩
      rintro b1 H7 ⟨s7, rfl⟩
      refine ite2 (fun c => ?_) (fun c => ?_)
      · rw [if_pos c, if_pos c] at sn
        refine ⟨_, rfl, acc, s7 _ _ hD, zl, fun z o e => ?_, _, _, upd_same, sn⟩
        rw [upd_ne (ne_of_none e nD)]; exact s7 _ _ (s5 _ _ e)
      · rw [if_neg c, if_neg c] at sn
        exact ⟨s5.trans s7, acc, us, s7 _ _ hD, sn⟩
    · rintro H5 ⟨s5, acc, us, hD, sm⟩
      have el : xs.length = l.length := ht4.len
      rw [el, List.take_length, ← el, List.take_length] at sm
      have eu : us = keepB l m := sm.us
      subst eu
      obtain ⟨cs, ow1, sb⟩ := sm.owns ow4
      have la : acc.length ≤ 300 := by have := sm.len; omega
      have lb : ys.length ≤ 300 := by have := ht3.len; omega
      refine ⟨_, rfl, _, rfl, D, b, acc, ys, rfl, rfl, hD, s5 _ _ hb4, Nat.le_trans (Nat.add_le_add la lb) (by decide), fun p np => ?_⟩
      have sp := same_new np (.lst (acc ++ ys))
      have own : Own (upd H5 p (.lst (acc ++ ys))) (.ref p) (.mk (behindL l m)) (p :: (cs ++ bs3)) := by
        rw [own_mk]
        refine ⟨p, acc ++ ys, cs ++ bs3, rfl, rfl, upd_same, ?_⟩
        exact Owns.append (Owns.frame _ ow1 fun a ha o e => sp _ _ (s5 _ _ e)) (Owns.frame _ ow3 fun a ha o e => sp _ _ (s5 _ _ (s34 _ _ e)))
      have fresh4 : ∀ a, a ∈ cs → H3 a = none := fun a ha => fr4 a (List.mem_cons_of_mem _ (sb.subset ha))
      have tr3 : ∀ a, a ∈ bs3 → ∃ o, H3 a = some o := fun a ha => let ⟨o, q⟩ := Owns.tracked m ow3 a ha; ⟨_, q⟩
      have nw : New H2 (upd H5 p (.lst (acc ++ ys))) (.ref p) (.mk (behindL l m)) := by
        refine ⟨s23.trans (s34.trans (s5.trans sp)), _, own, ?_, fun a ha => ?_⟩
        · refine List.nodup_cons.mpr ⟨fun h => ?_, List.nodup_append.mpr ⟨sb.nodup (List.nodup_cons.mp nd4).2, (List.nodup_cons.mp nd3).2, fun a ha b' hb' e => ?_⟩⟩
          · rcases List.mem_append.mp h with h | h
            · obtain ⟨o, q⟩ := Owns.tracked _ ow1 p h
              rw [s5 _ _ q] at np; cases np
            · obtain ⟨o, q⟩ := tr3 p h
              rw [s5 _ _ (s34 _ _ q)] at np; cases np
          · obtain ⟨o, q⟩ := tr3 b' hb'
            rw [← e, fresh4 a ha] at q; cases q
        · rcases List.mem_cons.mp ha with e | ha
          · rw [e]; exact ((s23.trans s34).trans s5).free np
          · rcases List.mem_append.mp ha with ha | ha
            · exact s23.free (fresh4 a ha)
            · exact fr3 a (List.mem_cons_of_mem _ ha)
      have nw0 := nw.of s12
      refine ⟨.ref p, _, rfl, nw.at_, ?_, ?_, fun hk H6 s6 => q1 hk _ _ (nw0.step s6), fun hk H6 s6 => q2 hk _ (nw0.1.trans s6)⟩
      · refine fit_mk_of (fun x hx => (List.mem_append.mp hx).elim (fun hx => f1 x (keepB_mem hx)) (f2 x)) ?_
        unfold behindL
        rw [List.length_append]
        have : (keepB l m).length ≤ l.length := List.length_filter_le _ _
        have h3 : (600 : Nat) ≤ lim := by decide
        omega
      · exact depth_mk_of fun x hx => (List.mem_append.mp hx).elim (fun hx => d1 x (keepB_mem hx)) (d2 x)
  · exact ⟨_, rfl, v, rfl, .inr ⟨hb, fun H1 s1 => q _ s1⟩⟩
  · refine ⟨_, rfl, v, rfl, .inl ⟨t, ht, ho, fun H1 s1 => ?_⟩⟩
    exact ⟨_, rfl, u, rfl, .inr ⟨hb.same s1, fun H2 s2 => q _ (s1.trans s2)⟩⟩
end
/-! ### ways to heads -/
def wI (w : List Nat) : List Int := w.map fun (n : Nat) => (n : Int)
theorem wI_cons (i : Nat) (w : List Nat) : wI (i :: w) = (i : Int) :: wI w := rfl
theorem wI_len (w : List Nat) : (wI w).length = w.length := List.length_map _
theorem wI_inj : ∀ {a b : List Nat}, wI a = wI b → a = b
  | [], [], _ => rfl
  | [], _ :: _, h => by cases h
  | _ :: _, [], h => by cases h
  | x :: a, y :: b, h => by
    rw [wI_cons, wI_cons] at h
    injection h with h1 h2
    rw [wI_inj h2, Int.ofNat.inj h1]
mutual
def headsT : Tt → List (List Nat)
  | .mk l => headsL 0 l
def headsL (i : Nat) : List Tt → List (List Nat)
  | [] => []
  | x :: l => (if x.bs.isEmpty = true then [[i]] else (headsT x).map (i :: ·)) ++ headsL (i + 1) l
end
def head1 (i : Nat) (x : Tt) : List (List Nat) := if x.bs.isEmpty = true then [[i]] else (headsT x).map (i :: ·)
theorem headsT_mk (l : List Tt) : headsT (.mk l) = headsL 0 l := by rw [headsT]
theorem headsL_nil (k : Nat) : headsL k [] = [] := by rw [headsL]
theorem headsL_cons (k : Nat) (x : Tt) (l : List Tt) : headsL k (x :: l) = head1 k x ++ headsL (k + 1) l := by rw [headsL]; rfl
theorem headsL_snoc : ∀ (l : List Tt) (k : Nat) (x : Tt), headsL k (l ++ [x]) = headsL k l ++ head1 (k + l.length) x
  | [], k, x => by rw [List.nil_append, headsL_cons, headsL_nil, headsL_nil]; simp
  | y :: l, k, x => by
    rw [List.cons_append, headsL_cons, headsL_cons, headsL_snoc l (k + 1) x, List.append_assoc, List.length_cons]
    have e : k + 1 + l.length = k + (l.length + 1) := by omega
    rw [e]
theorem heads_mem : ∀ {l : List Tt} {k : Nat} {w : List Nat}, w ∈ headsL k l → ∃ i b, l[i]? = some b ∧ w ∈ head1 (k + i) b
  | [], k, w, h => by rw [headsL_nil] at h; cases h
  | x :: l, k, w, h => by
    rw [headsL_cons] at h
    rcases List.mem_append.mp h with h | h
    · exact ⟨0, x, rfl, h⟩
    · obtain ⟨i, b, h1, h2⟩ := heads_mem h
      refine ⟨i + 1, b, h1, ?_⟩
      have e : k + 1 + i = k + (i + 1) := by omega
      rw [← e]; exact h2
theorem bs_empty {x : Tt} (h : x.bs.isEmpty = true) : x = .mk [] := by
  obtain ⟨l⟩ := x
  have : l = [] := List.isEmpty_iff.mp h
  rw [this]
theorem heads_way (t : Tt) : ∀ w, w ∈ headsT t → 1 ≤ w.length ∧ w.length ≤ depth t := by
  induction t using Tt.ind with
  | h l ih =>
    intro w h
    rw [headsT_mk] at h
    obtain ⟨i, b, h1, h2⟩ := heads_mem h
    have mb := List.mem_of_getElem? h1
    have db := depthL_le mb
    rw [depth]
    unfold head1 at h2
    split at h2
    · rw [List.mem_singleton] at h2
      rw [h2, List.length_singleton]
      omega
    · obtain ⟨u, hu, e⟩ := List.mem_map.mp h2
      have := ih b mb u hu
      rw [← e, List.length_cons]
      omega
mutual
theorem heads_len : ∀ t : Tt, (headsT t).length + 1 ≤ knots t
  | .mk l => by rw [headsT, knots]; have := headsL_len 0 l; omega
theorem headsL_len : ∀ (k : Nat) (l : List Tt), (headsL k l).length ≤ knotsL l
  | k, [] => by rw [headsL, knotsL]; exact Nat.le_refl _
  | k, x :: l => by
    rw [headsL, knotsL, List.length_append]
    have h1 := heads_len x
    have h2 := headsL_len (k + 1) l
    have h3 : (if x.bs.isEmpty = true then [[k]] else (headsT x).map (k :: ·)).length ≤ knots x := by
      split
      · have := depth_knots1 x
        rw [List.length_singleton]; omega
      · rw [List.length_map]; omega
    omega
theorem depth_knots1 : ∀ x : Tt, 1 ≤ knots x
  | .mk l => by rw [knots]; omega
end
/-- where a way leads to -/
def subT : Tt → List Nat → Option Tt
  | t, [] => some t
  | .mk bs, i :: w => match bs[i]? with
    | some b => subT b w
    | none => none
def putT : Tt → List Nat → Tt → Tt
  | _, [], s => s
  | .mk bs, i :: w, s => match bs[i]? with
    | some b => .mk (bs.set i (putT b w s))
    | none => .mk bs
theorem subT_nil (t : Tt) : subT t [] = some t := by cases t; rfl
theorem putT_nil (t s : Tt) : putT t [] s = s := by cases t; rfl
theorem subT_cons {bs : List Tt} {i : Nat} {w : List Nat} {b : Tt} (h : bs[i]? = some b) : subT (.mk bs) (i :: w) = subT b w := by
  rw [subT, h]
theorem subT_step {bs : List Tt} {i : Nat} {w : List Nat} {s : Tt} (h : subT (.mk bs) (i :: w) = some s) : ∃ b, bs[i]? = some b ∧ subT b w = some s := by
  cases e : bs[i]? with
  | none => rw [subT, e] at h; cases h
  | some b => rw [subT_cons e] at h; exact ⟨b, rfl, h⟩
theorem putT_cons {bs : List Tt} {i : Nat} {w : List Nat} {b s : Tt} (h : bs[i]? = some b) : putT (.mk bs) (i :: w) s = .mk (bs.set i (putT b w s)) := by
  rw [putT, h]
theorem subT_app : ∀ {w u : List Nat} {t m : Tt}, subT t w = some m → subT t (w ++ u) = subT m u
  | [], u, t, m, h => by rw [subT_nil] at h; cases h; rfl
  | i :: w, u, .mk bs, m, h => by
    obtain ⟨b, h1, h2⟩ := subT_step h
    rw [List.cons_append, subT_cons h1, subT_app h2]
theorem get_set {bs : List Tt} {i : Nat} {b c : Tt} (h : bs[i]? = some b) : (bs.set i c)[i]? = some c := by
  obtain ⟨hi, _⟩ := List.getElem?_eq_some_iff.mp h
  rw [List.getElem?_set_self hi]
theorem subT_put : ∀ {w u : List Nat} {t m s : Tt}, subT t w = some m → subT (putT t (w ++ u) s) w = some (putT m u s)
  | [], u, t, m, s, h => by rw [subT_nil] at h; cases h; rw [List.nil_append, subT_nil]
  | i :: w, u, .mk bs, m, s, h => by
    obtain ⟨b, h1, h2⟩ := subT_step h
    rw [List.cons_append, putT_cons h1, subT_cons (get_set h1), subT_put h2]
theorem putT_put : ∀ {w u : List Nat} {t m s s' : Tt}, subT t w = some m → putT (putT t (w ++ u) s) w s' = putT t w s'
  | [], u, t, m, s, s', h => by rw [putT_nil, putT_nil]
  | i :: w, u, .mk bs, m, s, s', h => by
    obtain ⟨b, h1, h2⟩ := subT_step h
    rw [List.cons_append, putT_cons h1, putT_cons (get_set h1), putT_cons h1, putT_put h2, List.set_set]
/-- a head at the end of a way cut, n copies growing -/
inductive Cut : Tt → List Nat → Nat → Tt → Prop
  | root {bs : List Tt} {i n : Nat} (h : bs[i]? = some (.mk [])) : Cut (.mk bs) [i] n (.mk (bs.eraseIdx i))
  | up {t : Tt} {w : List Nat} {cs bs : List Tt} {j i n : Nat} (h1 : subT t w = some (.mk cs)) (h2 : cs[j]? = some (.mk bs)) (h3 : bs[i]? = some (.mk [])) :
      Cut t (w ++ [j, i]) n (putT t w (.mk (cs.set j (.mk (bs.eraseIdx i)) ++ List.replicate n (.mk (bs.eraseIdx i)))))
theorem cut_of_head (t : Tt) : ∀ w, w ∈ headsT t → ∀ n, ∃ r, Cut t w n r := by
  induction t using Tt.ind with
  | h bs ih =>
    intro w h n
    rw [headsT_mk] at h
    obtain ⟨i, b, h1, h2⟩ := heads_mem h
    rw [Nat.zero_add] at h2
    unfold head1 at h2
    split at h2
    · rename_i c
      have e := bs_empty c
      subst e
      rw [List.mem_singleton] at h2
      rw [h2]
      exact ⟨_, .root h1⟩
    · obtain ⟨u, hu, e⟩ := List.mem_map.mp h2
      obtain ⟨r, hr⟩ := ih b (List.mem_of_getElem? h1) u hu n
      rw [← e]
      cases hr with
      | @root cs i' _ h3 => exact ⟨_, .up (w := []) (cs := bs) (subT_nil _) h1 h3⟩
      | @up _ v cs ds j i' _ h3 h4 h5 => exact ⟨_, .up (w := i :: v) (by rw [subT_cons h1]; exact h3) h4 h5⟩
/-! ### sizes -/
theorem perm_get : ∀ {bs : List Tt} {i : Nat} {b : Tt}, bs[i]? = some b → bs.Perm (b :: bs.eraseIdx i)
  | [], i, b, h => by cases h
  | x :: bs, 0, b, h => by
    have e : x = b := Option.some.inj (by simpa using h)
    rw [e]; exact List.Perm.refl _
  | x :: bs, i + 1, b, h => by
    have := perm_get (bs := bs) (i := i) (b := b) (by simpa using h)
    exact (this.cons x).trans (List.Perm.swap b x _)
theorem perm_set : ∀ {bs : List Tt} {i : Nat} {b c : Tt}, bs[i]? = some b → (bs.set i c).Perm (c :: bs.eraseIdx i)
  | [], i, b, c, h => by cases h
  | x :: bs, 0, b, c, h => List.Perm.refl _
  | x :: bs, i + 1, b, c, h => by
    have := perm_set (bs := bs) (i := i) (b := b) (c := c) h
    exact (this.cons x).trans (List.Perm.swap c x _)
theorem knotsL_perm1 {l m : List Tt} (p : l.Perm m) : knotsL l = knotsL m := by
  induction p with
  | nil => rfl
  | cons x _ ih => rw [knotsL, knotsL, ih]
  | swap x y l => rw [knotsL, knotsL, knotsL, knotsL]; omega
  | trans _ _ ih1 ih2 => rw [ih1, ih2]
theorem knotsL_erase {bs : List Tt} {i : Nat} {b : Tt} (h : bs[i]? = some b) : knotsL (bs.eraseIdx i) + knots b = knotsL bs := by
  have := knotsL_perm1 (perm_get h)
  rw [knotsL] at this
  omega
theorem knotsL_set {bs : List Tt} {i : Nat} {b c : Tt} (h : bs[i]? = some b) : knotsL (bs.set i c) + knots b = knotsL bs + knots c := by
  have h1 := knotsL_perm1 (perm_set (c := c) h)
  have h2 := knotsL_erase h
  rw [knotsL] at h1
  omega
theorem knots_put : ∀ {w : List Nat} {t s s' : Tt}, subT t w = some s → knots (putT t w s') + knots s = knots t + knots s'
  | [], t, s, s', h => by rw [subT_nil] at h; cases h; rw [putT_nil]; omega
  | i :: w, .mk bs, s, s', h => by
    obtain ⟨b, h1, h2⟩ := subT_step h
    rw [putT_cons h1, knots, knots]
    have h3 := knots_put (s' := s') h2
    have h4 := knotsL_set (c := putT b w s') h1
    omega
theorem depthL_set {bs : List Tt} {i : Nat} {b c : Tt} (h : bs[i]? = some b) (hc : depth c ≤ depth b) : depthL (bs.set i c) ≤ depthL bs := by
  refine depthL_iff.mpr fun x hx => ?_
  rcases List.mem_or_eq_of_mem_set hx with hx | e
  · exact depthL_le hx
  · have := depthL_le (List.mem_of_getElem? h)
    rw [e]; omega
theorem depth_put : ∀ {w : List Nat} {t s s' : Tt}, subT t w = some s → depth s' ≤ depth s → depth (putT t w s') ≤ depth t
  | [], t, s, s', h, k => by rw [subT_nil] at h; cases h; rw [putT_nil]; exact k
  | i :: w, .mk bs, s, s', h, k => by
    obtain ⟨b, h1, h2⟩ := subT_step h
    rw [putT_cons h1, depth, depth]
    exact depthL_set h1 (depth_put h2 k)
theorem depthL_erase (bs : List Tt) (i : Nat) : depthL (bs.eraseIdx i) ≤ depthL bs :=
  depthL_iff.mpr fun _ hx => depthL_le (List.mem_of_mem_eraseIdx hx)
theorem knotsL_rep (n : Nat) (t : Tt) : knotsL (List.replicate n t) = n * knots t := by
  induction n with
  | zero => rw [List.replicate_zero, knotsL, Nat.zero_mul]
  | succ n ih => rw [List.replicate_succ, knotsL, ih, Nat.succ_mul]; omega
def bearer (t : Tt) (w : List Nat) : Tt := (subT t w.dropLast).getD (.mk [])
/-- how many knots will be left -/
def sizeT (t : Tt) (w : List Nat) (n : Nat) : Nat := knots t - 1 + (if 1 < w.length then n * (knots (bearer t w) - 1) else 0)
theorem up_drop (w : List Nat) (j i : Nat) : (w ++ [j, i]).dropLast = w ++ [j] := by
  have e : w ++ [j, i] = (w ++ [j]) ++ [i] := by simp
  rw [e, List.dropLast_concat]
theorem up_drop2 (w : List Nat) (j i : Nat) : (w ++ [j, i]).dropLast.dropLast = w := by rw [up_drop, List.dropLast_concat]
theorem up_sub {t : Tt} {w : List Nat} {cs : List Tt} {j : Nat} {b : Tt} (h1 : subT t w = some (.mk cs)) (h2 : cs[j]? = some b) : subT t (w ++ [j]) = some b := by
  rw [subT_app h1, subT_cons h2, subT_nil]
theorem cut_size {t r : Tt} {w : List Nat} {n : Nat} (h : Cut t w n r) : knots r = sizeT t w n := by
  unfold sizeT
  cases h with
  | root h =>
    have h1 := knotsL_erase h
    rw [knots, knotsL] at h1
    rw [knots, knots, List.length_singleton, if_neg (by decide)]
    omega
  | @up _ w cs bs j i _ h1 h2 h3 =>
    have e1 : bearer t (w ++ [j, i]) = .mk bs := by
      unfold bearer
      rw [up_drop, up_sub h1 h2]
      rfl
    have k1 := knotsL_erase h3
    rw [knots, knotsL] at k1
    have k2 := knotsL_set (c := .mk (bs.eraseIdx i)) h2
    have k3 := knots_put (s' := .mk (cs.set j (.mk (bs.eraseIdx i)) ++ List.replicate n (.mk (bs.eraseIdx i)))) h1
    have e2 : 1 + knotsL bs - 1 = 1 + knotsL (bs.eraseIdx i) := by omega
    have k4 := depth_knots1 t
    rw [e1, if_pos (by simp)]
    rw [knots, knots, knotsL_append, knotsL_rep, knots] at k3
    rw [knots, knots] at k2
    rw [knots, e2]
    omega
theorem cut_depth {t r : Tt} {w : List Nat} {n : Nat} (h : Cut t w n r) : depth r ≤ depth t := by
  cases h with
  | root h => rw [depth, depth]; exact depthL_erase _ _
  | @up _ w cs bs j i _ h1 h2 h3 =>
    refine depth_put h1 ?_
    have d1 : depth (.mk (bs.eraseIdx i)) ≤ depth (.mk bs) := by rw [depth, depth]; exact depthL_erase _ _
    have d2 := depthL_le (List.mem_of_getElem? h2)
    rw [depth, depth, depthL_append]
    have d3 := depthL_set h2 d1
    have d4 : depthL (List.replicate n (.mk (bs.eraseIdx i))) ≤ depthL cs := depthL_iff.mpr fun x hx => by
      rw [List.eq_of_mem_replicate hx]; omega
    omega
/-! ### what is left is worth less -/
theorem toldL_perm2 {l m : List Tt} (p : l.Perm m) : toldL [] l = toldL [] m := by
  refine sd_unique _ _ (toldL_sd _ _ List.Pairwise.nil) (toldL_sd _ _ List.Pairwise.nil) ?_
  refine (toldL_perm l []).trans (List.Perm.trans ?_ (toldL_perm m []).symm)
  rw [List.nil_append, List.nil_append]
  exact p.map told
theorem lt_head {y : Tt} : ∀ {Z M : List Tt}, (∀ z, z ∈ Z → cmp z y < 0) → cmpL Z (y :: M) < 0
  | [], M, _ => by rw [cmpL_nil, List.length_cons]; omega
  | z :: Z, M, h => by
    have := h z List.mem_cons_self
    rw [cmpL_cons, if_pos (by omega)]
    exact this
theorem foldins_top {a : Tt} : ∀ (X L : List Tt), (∀ x, x ∈ X → 0 ≤ cmp a x) → X.foldl (fun l x => ins x l) (a :: L) = a :: X.foldl (fun l x => ins x l) L
  | [], L, _ => rfl
  | x :: X, L, h => by
    rw [List.foldl_cons, List.foldl_cons]
    have e : ins x (a :: L) = a :: ins x L := by
      show (if 0 ≤ cmp a x then a :: ins x L else x :: a :: L) = _
      rw [if_pos (h x List.mem_cons_self)]
    rw [e, foldins_top X _ fun z hz => h z (List.mem_cons_of_mem _ hz)]
theorem ins_lt {y : Tt} : ∀ (L X : List Tt), Sd L → (∀ x, x ∈ X → cmp x y < 0) → cmpL (X.foldl (fun l x => ins x l) L) (ins y L) < 0
  | [], X, _, h => by
    refine lt_head fun z hz => ?_
    have := (foldins_perm X []).mem_iff.mp hz
    rw [List.nil_append] at this
    exact h z this
  | a :: L, X, s, h => by
    obtain ⟨s1, s2⟩ := List.pairwise_cons.mp s
    by_cases c : 0 ≤ cmp a y
    · have e : ins y (a :: L) = a :: ins y L := by
        show (if 0 ≤ cmp a y then a :: ins y L else y :: a :: L) = _
        rw [if_pos c]
      rw [e, foldins_top X L, cmpL_cons, if_neg (by rw [cmp_self]; simp)]
      · exact ins_lt L X s2 h
      · intro x hx
        have h1 : ge y x := ge_of_lt (h x hx)
        exact ge_trans c h1
    · have e : ins y (a :: L) = y :: a :: L := by
        show (if 0 ≤ cmp a y then a :: ins y L else y :: a :: L) = _
        rw [if_neg c]
      rw [e]
      refine lt_head fun z hz => ?_
      rcases List.mem_append.mp ((foldins_perm X _).mem_iff.mp hz) with hz | hz
      · rcases List.mem_cons.mp hz with e | hz
        · rw [e]; omega
        · have h1 := s1 z hz
          have h2 : cmp a y < 0 := by omega
          rcases ge_cases h1 with e | h1
          · rw [← e]; exact h2
          · exact cmp_lt_trans h1 h2
      · exact h z hz
/-- some branches instead of one that is worth more than each -/
theorem told_less {bs us rest : List Tt} {b : Tt} (p : bs.Perm (b :: rest)) (q : us.Perm (rest ++ X)) (h : ∀ x, x ∈ X → cmp (told x) (told b) < 0) : cmp (told (.mk us)) (told (.mk bs)) < 0 := by
  rw [told_mk, told_mk, cmp_mk]
  have p2 : bs.Perm (rest ++ [b]) := p.trans (List.perm_append_singleton b rest).symm
  rw [toldL_perm2 p2, toldL_perm2 q, toldL_append, toldL_append, toldL_cons, toldL_nil, toldL_eq X]
  refine ins_lt _ _ (toldL_sd _ _ List.Pairwise.nil) fun x hx => ?_
  obtain ⟨y, hy, e⟩ := List.mem_map.mp hx
  rw [← e]; exact h y hy
theorem told_erase {bs : List Tt} {i : Nat} {b : Tt} (h : bs[i]? = some b) : cmp (told (.mk (bs.eraseIdx i))) (told (.mk bs)) < 0 :=
  told_less (X := []) (perm_get h) (by rw [List.append_nil]) fun x hx => by cases hx
theorem told_set {bs : List Tt} {i : Nat} {b c : Tt} (h : bs[i]? = some b) (hc : cmp (told c) (told b) < 0) : cmp (told (.mk (bs.set i c))) (told (.mk bs)) < 0 :=
  told_less (X := [c]) (perm_get h) ((perm_set h).trans (List.perm_append_singleton c _).symm) fun x hx => by
    rw [List.mem_singleton] at hx
    rw [hx]; exact hc
theorem told_many {bs : List Tt} {i n : Nat} {b c : Tt} (h : bs[i]? = some b) (hc : cmp (told c) (told b) < 0) : cmp (told (.mk (bs.set i c ++ List.replicate n c))) (told (.mk bs)) < 0 := by
  refine told_less (X := List.replicate (n + 1) c) (perm_get h) ?_ fun x hx => by rw [List.eq_of_mem_replicate hx]; exact hc
  refine ((perm_set h).append_right _).trans ?_
  rw [List.replicate_succ, List.cons_append]
  exact (List.perm_middle).symm
theorem told_put : ∀ {w : List Nat} {t s s' : Tt}, subT t w = some s → cmp (told s') (told s) < 0 → cmp (told (putT t w s')) (told t) < 0
  | [], t, s, s', h, k => by rw [subT_nil] at h; cases h; rw [putT_nil]; exact k
  | i :: w, .mk bs, s, s', h, k => by
    obtain ⟨b, h1, h2⟩ := subT_step h
    rw [putT_cons h1]
    exact told_set h1 (told_put h2 k)
theorem cut_less {t r : Tt} {w : List Nat} {n : Nat} (h : Cut t w n r) : cmp (told r) (told t) < 0 := by
  cases h with
  | root h => exact told_erase h
  | up h1 h2 h3 => exact told_put h1 (told_many h2 (told_erase h3))
/-! ### walking down a way -/
def Walk (H : Hp) : V → List Nat → V → Prop
  | v, [], u => v = u
  | v, i :: w, u => ∃ a xs x, v = .ref a ∧ H a = some (.lst xs) ∧ xs[i]? = some x ∧ Walk H x w u
theorem walk_nil {H : Hp} {v u : V} : Walk H v [] u = (v = u) := rfl
theorem walk_cons {H : Hp} {v u : V} {i : Nat} {w : List Nat} : Walk H v (i :: w) u = ∃ a xs x, v = .ref a ∧ H a = some (.lst xs) ∧ xs[i]? = some x ∧ Walk H x w u := rfl
theorem Walk.same {H H' : Hp} (s : Same H H') : ∀ {w : List Nat} {v u : V}, Walk H v w u → Walk H' v w u
  | [], v, u, h => h
  | i :: w, v, u, h => by
    obtain ⟨a, xs, x, e, h1, h2, h3⟩ := h
    exact ⟨a, xs, x, e, s _ _ h1, h2, Walk.same s h3⟩
theorem Walk.app {H : Hp} : ∀ {w w2 : List Nat} {v m u : V}, Walk H v w m → Walk H m w2 u → Walk H v (w ++ w2) u
  | [], w2, v, m, u, h, k => by rw [walk_nil] at h; subst h; exact k
  | i :: w, w2, v, m, u, h, k => by
    obtain ⟨a, xs, x, e, h1, h2, h3⟩ := h
    exact ⟨a, xs, x, e, h1, h2, Walk.app h3 k⟩
theorem Walk.det {H : Hp} : ∀ {w : List Nat} {v u m : V}, Walk H v w u → Walk H v w m → u = m
  | [], v, u, m, h, k => by rw [walk_nil] at h k; rw [← h, ← k]
  | i :: w, v, u, m, h, k => by
    obtain ⟨a, xs, x, rfl, h1, h2, h3⟩ := h
    obtain ⟨b, ys, y, e, k1, k2, k3⟩ := k
    cases e
    rw [h1] at k1
    cases k1
    rw [h2] at k2
    cases k2
    exact Walk.det h3 k3
theorem TreeAt.walk {H : Hp} : ∀ {w : List Nat} {v : V} {t s : Tt}, TreeAt H v t → subT t w = some s → ∃ u, Walk H v w u ∧ TreeAt H u s
  | [], v, t, s, h, e => by rw [subT_nil] at e; cases e; exact ⟨v, rfl, h⟩
  | i :: w, v, .mk bs, s, h, e => by
    obtain ⟨b, h1, h2⟩ := subT_step e
    rw [treeAt_mk] at h
    obtain ⟨a, xs, rfl, ha, hx⟩ := h
    obtain ⟨x, k1, k2⟩ := hx.get' h1
    obtain ⟨u, k3, k4⟩ := TreeAt.walk k2 h2
    exact ⟨u, ⟨a, xs, x, rfl, ha, k1, k3⟩, k4⟩
theorem at_split {α : Type} {l : List α} {i : Nat} {x : α} (h : l[i]? = some x) : l = l.take i ++ x :: l.drop (i + 1) := by
  obtain ⟨hi, e⟩ := List.getElem?_eq_some_iff.mp h
  rw [← e, List.getElem_cons_drop, List.take_append_drop]
theorem set_split {α : Type} {l : List α} {i : Nat} {x y : α} (h : l[i]? = some x) : l.set i y = l.take i ++ y :: l.drop (i + 1) := by
  obtain ⟨hi, _⟩ := List.getElem?_eq_some_iff.mp h
  rw [List.set_eq_take_append_cons_drop, if_pos hi]
theorem erase_split {α : Type} {l : List α} {i : Nat} : l.eraseIdx i = l.take i ++ l.drop (i + 1) := List.eraseIdx_eq_take_drop_succ l i
/-- one branch apart -/
theorem Owns.pick {H : Hp} {vs : List V} {bs : List Tt} {as : List Addr} {i : Nat} {b : Tt} (h : Owns H vs bs as) (e : bs[i]? = some b) :
    ∃ v1 x v2 b1 ab b2, vs = v1 ++ x :: v2 ∧ v1.length = i ∧ as = b1 ++ (ab ++ b2) ∧ Owns H v1 (bs.take i) b1 ∧ Own H x b ab ∧ Owns H v2 (bs.drop (i + 1)) b2 := by
  rw [at_split e] at h
  obtain ⟨v1, v2, b1, b2, rfl, rfl, h1, h2⟩ := h.split
  rw [owns_cons] at h2
  obtain ⟨x, v3, ab, b3, rfl, rfl, h3, h4⟩ := h2
  have hi := (List.getElem?_eq_some_iff.mp e).1
  refine ⟨v1, x, v3, b1, ab, b3, rfl, ?_, rfl, h1, h3, h4⟩
  rw [h1.len, List.length_take]
  omega
theorem Owns.erase {H : Hp} {vs : List V} {bs : List Tt} {as : List Addr} {i : Nat} {b : Tt} (h : Owns H vs bs as) (e : bs[i]? = some b) : ∃ as', Owns H (vs.eraseIdx i) (bs.eraseIdx i) as' ∧ as'.Sublist as := by
  obtain ⟨v1, x, v2, b1, ab, b2, rfl, hl, rfl, h1, h2, h3⟩ := h.pick e
  refine ⟨b1 ++ b2, ?_, (List.Sublist.refl b1).append (List.sublist_append_right ab b2)⟩
  rw [erase_split (l := bs)]
  have ev : (v1 ++ x :: v2).eraseIdx i = v1 ++ v2 := by
    rw [erase_split, ← hl, List.take_left]
    have : (v1 ++ x :: v2).drop (v1.length + 1) = v2 := by
      have e2 : v1 ++ x :: v2 = (v1 ++ [x]) ++ v2 := by simp
      rw [e2]
      have e3 : v1.length + 1 = (v1 ++ [x]).length := by simp
      rw [e3, List.drop_left]
    rw [this]
  rw [ev]
  exact Owns.append h1 h3
theorem Own.focus {H : Hp} : ∀ {w : List Nat} {v : V} {t s : Tt} {as : List Addr}, Own H v t as → subT t w = some s → ∃ u as1 as0 as2, Walk H v w u ∧ as = as1 ++ (as0 ++ as2) ∧ Own H u s as0 ∧
    ∀ (H' : Hp), (∀ c, c ∈ as1 ∨ c ∈ as2 → ∀ o, H c = some o → H' c = some o) → (∀ (s' : Tt) (asn : List Addr), Own H' u s' asn → Own H' v (putT t w s') (as1 ++ (asn ++ as2))) ∧ ∀ w1 w2 m, w = w1 ++ w2 → Walk H v w1 m → Walk H' v w1 m
  | [], v, t, s, as, h, e => by
    rw [subT_nil] at e
    cases e
    refine ⟨v, [], as, [], rfl, by simp, h, fun H' _ => ⟨fun s' asn k => ?_, fun w1 w2 m e k => ?_⟩⟩
    · rw [putT_nil, List.nil_append, List.append_nil]; exact k
    · have e1 := (List.append_eq_nil_iff.mp e.symm).1
      subst e1
      rw [walk_nil] at k ⊢; exact k
  | i :: w, v, .mk bs, s, as, h, e => by
    obtain ⟨b, h1, h2⟩ := subT_step e
    rw [own_mk] at h
    obtain ⟨a, vs, asb, rfl, rfl, ha, hb⟩ := h
    obtain ⟨v1, x, v2, b1, ab, b2, rfl, hl, rfl, o1, o2, o3⟩ := hb.pick h1
    obtain ⟨u, as1, as0, as2, k1, rfl, k3, k4⟩ := Own.focus o2 h2
    have hx : (v1 ++ x :: v2)[i]? = some x := by rw [← hl]; simp
    refine ⟨u, a :: (b1 ++ as1), as0, as2 ++ b2, ⟨a, _, x, rfl, ha, hx, k1⟩, by simp, k3, fun H' fr => ?_⟩
    have F := k4 H' (fun c hc o q => fr c (hc.elim (fun z => .inl (by simp [z])) (fun z => .inr (by simp [z]))) o q)
    refine ⟨fun s' asn on => ?_, fun w1 w2 m ew k => ?_⟩
    · have o := F.1 s' asn on
      rw [putT_cons h1, own_mk]
      refine ⟨a, v1 ++ x :: v2, b1 ++ ((as1 ++ (asn ++ as2)) ++ b2), rfl, by simp, fr a (.inl List.mem_cons_self) _ ha, ?_⟩
      rw [set_split h1]
      refine Owns.append (Owns.frame _ o1 fun c hc o q => fr c (.inl (by simp [hc])) o q) ?_
      rw [owns_cons]
      exact ⟨x, v2, _, _, rfl, rfl, o, Owns.frame _ o3 fun c hc o q => fr c (.inr (by simp [hc])) o q⟩
    · cases w1 with
      | nil => rw [walk_nil] at k ⊢; exact k
      | cons y w1 =>
        injection ew with e1 e2
        subst e1
        obtain ⟨a', xs', x', e3, g1, g2, g3⟩ := k
        cases e3
        rw [ha] at g1
        cases g1
        rw [hx] at g2
        cases g2
        exact ⟨a, _, x, rfl, fr a (.inl List.mem_cons_self) _ ha, hx, F.2 w1 w2 m e2 g3⟩
theorem Walk.split {H : Hp} : ∀ {w w2 : List Nat} {v u : V}, Walk H v (w ++ w2) u → ∃ m, Walk H v w m ∧ Walk H m w2 u
  | [], w2, v, u, h => ⟨v, rfl, h⟩
  | i :: w, w2, v, u, h => by
    obtain ⟨a, xs, x, e, h1, h2, h3⟩ := h
    obtain ⟨m, k1, k2⟩ := Walk.split (w := w) h3
    exact ⟨m, ⟨a, xs, x, e, h1, h2, k1⟩, k2⟩
/-- a list D that stood there, new trees put behind -/
def GrowAt (H H' : Hp) (D : Addr) (xs zs : List V) (ts : List Tt) : Prop := (∀ c o, c ≠ D → H c = some o → H' c = some o) ∧ H' D = some (.lst (xs ++ zs)) ∧ ∃ bs, Owns H' zs ts bs ∧ bs.Nodup ∧ ∀ a, a ∈ bs → H a = none
theorem GrowAt.start {H : Hp} {D : Addr} {xs : List V} (h : H D = some (.lst xs)) : GrowAt H H D xs [] [] :=
  ⟨fun _ _ _ e => e, by rw [List.append_nil]; exact h, [], by rw [owns_nil]; exact ⟨rfl, rfl⟩, List.nodup_nil, fun a ha => by cases ha⟩
theorem GrowAt.ext {H H2 : Hp} {D : Addr} {xs zs : List V} {ts : List Tt} {bs : List Addr} (h : H D = some (.lst xs)) (s : Same H H2) (o : Owns H2 zs ts bs) (nd : bs.Nodup) (fr : ∀ a, a ∈ bs → H a = none) : GrowAt H (upd H2 D (.lst (xs ++ zs))) D xs zs ts := by
  have nD : D ∉ bs := fun hb => by have := fr D hb; rw [h] at this; cases this
  refine ⟨fun c o hc e => by rw [upd_ne hc]; exact s _ _ e, upd_same, bs, ?_, nd, fr⟩
  exact Owns.frame _ o fun c hc u q => by rw [upd_ne (fun e => nD (by rw [← e]; exact hc))]; exact q
theorem GrowAt.more {H H' H2 : Hp} {D : Addr} {xs zs : List V} {ts : List Tt} {v : V} {t : Tt} (h : H D = some (.lst xs)) (g : GrowAt H H' D xs zs ts) (n : New H' H2 v t) :
    H2 D = some (.lst (xs ++ zs)) ∧ GrowAt H (upd H2 D (.lst (xs ++ zs ++ [v]))) D xs (zs ++ [v]) (ts ++ [t]) := by
  obtain ⟨k, hD, bs, ow, nd, fr⟩ := g
  obtain ⟨s, b2, o, nb, fb⟩ := n
  have nD : D ∉ bs := fun hb => by have := fr D hb; rw [h] at this; cases this
  have nD2 : D ∉ b2 := fun hb => by have := fb D hb; rw [hD] at this; cases this
  have tr := Owns.tracked ts ow
  refine ⟨s _ _ hD, fun c o hc e => by rw [upd_ne hc]; exact s _ _ (k c o hc e), by rw [upd_same, List.append_assoc], bs ++ b2, ?_, ?_, ?_⟩
  · refine Owns.append (Owns.frame _ ow fun c hc u q => ?_) (Owns.one (Own.frame _ o fun c hc u q => ?_))
    · rw [upd_ne (fun e => nD (by rw [← e]; exact hc))]; exact s _ _ q
    · rw [upd_ne (fun e => nD2 (by rw [← e]; exact hc))]; exact q
  · refine List.nodup_append.mpr ⟨nd, nb, fun a ha c hc e => ?_⟩
    obtain ⟨l, q⟩ := tr a ha
    rw [e, fb c hc] at q; cases q
  · intro a ha
    rcases List.mem_append.mp ha with ha | ha
    · exact fr a ha
    · cases e : H a with
      | none => rfl
      | some o =>
        have q := k a o (fun z => nD2 (by rw [← z]; exact ha)) e
        rw [fb a ha] at q; cases q
/-- a new tree changed at the end of a way -/
theorem New.knot {H0 H : Hp} {v : V} {t : Tt} {w : List Nat} {bs : List Tt} (n : New H0 H v t) (hs : subT t w = some (.mk bs)) : ∃ au xs, Walk H v w (.ref au) ∧ H au = some (.lst xs) ∧ TreesAt H xs bs ∧ H0 au = none ∧
    (∀ i b, bs[i]? = some b → New H0 (upd H au (.lst (xs.eraseIdx i))) v (putT t w (.mk (bs.eraseIdx i))) ∧ TreeAt (upd H au (.lst (xs.eraseIdx i))) (.ref au) (.mk (bs.eraseIdx i)) ∧ ∀ w1 w2 m, w = w1 ++ w2 → Walk H v w1 m → Walk (upd H au (.lst (xs.eraseIdx i))) v w1 m) ∧
    ∀ (H' : Hp) (zs : List V) (ts : List Tt), GrowAt H H' au xs zs ts → New H0 H' v (putT t w (.mk (bs ++ ts))) ∧ ∀ w1 w2 m, w = w1 ++ w2 → Walk H v w1 m → Walk H' v w1 m := by
  obtain ⟨s0, as, ow, nd, fr⟩ := n
  obtain ⟨u, as1, as0, as2, k1, rfl, k3, k4⟩ := Own.focus ow hs
  rw [own_mk] at k3
  obtain ⟨au, xs, asr, rfl, rfl, ha, hx⟩ := k3
  have hau0 : H0 au = none := fr au (by simp)
  obtain ⟨n1, n2, n12⟩ := List.nodup_append.mp nd
  obtain ⟨n3, n4, n34⟩ := List.nodup_append.mp n2
  obtain ⟨n5, n6⟩ := List.nodup_cons.mp n3
  have off : ∀ c, c ∈ as1 ∨ c ∈ as2 → c ≠ au := fun c hc e => by
    subst e
    rcases hc with hc | hc
    · exact n12 c hc c (by simp) rfl
    · exact n34 c List.mem_cons_self c hc rfl
  have tr : ∀ c, c ∈ as1 ++ ((au :: asr) ++ as2) → ∃ l, H c = some (.lst l) := Own.tracked t ow
  refine ⟨au, xs, k1, ha, Owns.at_ _ hx, hau0, fun i b hb => ?_, fun H' zs ts g => ?_⟩
  · obtain ⟨asr', o', sl⟩ := hx.erase hb
    have keep : ∀ c, c ≠ au → ∀ o, H c = some o → upd H au (.lst (xs.eraseIdx i)) c = some o := fun c hc o q => by rw [upd_ne hc]; exact q
    have sl2 : (as1 ++ ((au :: asr') ++ as2)).Sublist (as1 ++ ((au :: asr) ++ as2)) := (List.Sublist.refl _).append ((sl.cons₂ au).append (List.Sublist.refl _))
    have F := k4 (upd H au (.lst (xs.eraseIdx i))) (fun c hc o q => keep c (off c hc) o q)
    have on : Own (upd H au (.lst (xs.eraseIdx i))) (.ref au) (.mk (bs.eraseIdx i)) (au :: asr') := by
      rw [own_mk]
      exact ⟨au, _, asr', rfl, rfl, upd_same, Owns.frame _ o' fun c hc o q => keep c (fun e => n5 (by rw [← e]; exact sl.subset hc)) o q⟩
    exact ⟨⟨fun c o q => keep c (ne_of_none q hau0) o (s0 _ _ q), as1 ++ ((au :: asr') ++ as2), F.1 _ _ on, sl2.nodup nd, fun c hc => fr c (sl2.subset hc)⟩, Own.at_ _ on, F.2⟩
  · obtain ⟨keep, hD, bs2, oz, nz, fz⟩ := g
    have dis : ∀ c, c ∈ bs2 → ∀ d, d ∈ as1 ++ ((au :: asr) ++ as2) → d ≠ c := fun c hc d hd e => by
      obtain ⟨l, q⟩ := tr d hd
      rw [e, fz c hc] at q; cases q
    have F := k4 H' (fun c hc o q => keep c o (off c hc) q)
    have on : Own H' (.ref au) (.mk (bs ++ ts)) (au :: (asr ++ bs2)) := by
      rw [own_mk]
      exact ⟨au, _, asr ++ bs2, rfl, rfl, hD, Owns.append (Owns.frame _ hx fun c hc o q => keep c o (fun e => n5 (by rw [← e]; exact hc)) q) oz⟩
    refine ⟨⟨fun c o q => keep c o (ne_of_none q hau0) (s0 _ _ q), as1 ++ ((au :: (asr ++ bs2)) ++ as2), F.1 _ _ on, ?_, ?_⟩, F.2⟩
    · have p : (as1 ++ ((au :: (asr ++ bs2)) ++ as2)).Perm ((as1 ++ ((au :: asr) ++ as2)) ++ bs2) := by
        have e1 : as1 ++ ((au :: (asr ++ bs2)) ++ as2) = (as1 ++ (au :: asr)) ++ (bs2 ++ as2) := by simp
        have e2 : (as1 ++ ((au :: asr) ++ as2)) ++ bs2 = (as1 ++ (au :: asr)) ++ (as2 ++ bs2) := by simp
        rw [e1, e2]
        exact List.perm_append_comm.append_left _
      exact p.nodup_iff.mpr (List.nodup_append.mpr ⟨nd, nz, fun d hd c hc e => dis c hc d hd e⟩)
    · intro c hc
      have : c ∈ as1 ++ ((au :: asr) ++ as2) ∨ c ∈ bs2 := by
        simp only [List.mem_append, List.mem_cons] at hc ⊢
        rcases hc with h | (h | h | h) | h
        · exact .inl (.inl h)
        · exact .inl (.inr (.inl (.inl h)))
        · exact .inl (.inr (.inl (.inr h)))
        · exact .inr h
        · exact .inl (.inr (.inr h))
      rcases this with h | h
      · exact fr c h
      · exact s0.free (fz c h)
/-! ### lists of ways -/
def WaysR (H : Hp) : List Addr → List (List Int) → Prop
  | [], [] => True
  | r :: rs, w :: ws => H r = some (.lst (w.map V.int)) ∧ WaysR H rs ws
  | _, _ => False
theorem WaysR.len {H : Hp} : ∀ {rs : List Addr} {ws : List (List Int)}, WaysR H rs ws → rs.length = ws.length
  | [], [], _ => rfl
  | [], _ :: _, h => h.elim
  | _ :: _, [], h => h.elim
  | r :: rs, w :: ws, h => by rw [List.length_cons, List.length_cons, WaysR.len h.2]
theorem WaysR.frame {H H' : Hp} : ∀ {rs : List Addr} {ws : List (List Int)}, WaysR H rs ws → (∀ r, r ∈ rs → ∀ o, H r = some o → H' r = some o) → WaysR H' rs ws
  | [], [], _, _ => trivial
  | [], _ :: _, h, _ => h.elim
  | _ :: _, [], h, _ => h.elim
  | r :: rs, w :: ws, h, k => ⟨k r List.mem_cons_self _ h.1, WaysR.frame h.2 fun c hc => k c (List.mem_cons_of_mem _ hc)⟩
theorem WaysR.append {H : Hp} : ∀ {rs ss : List Addr} {ws us : List (List Int)}, WaysR H rs ws → WaysR H ss us → WaysR H (rs ++ ss) (ws ++ us)
  | [], ss, [], us, _, k => k
  | [], _, _ :: _, _, h, _ => h.elim
  | _ :: _, _, [], _, h, _ => h.elim
  | r :: rs, ss, w :: ws, us, h, k => ⟨h.1, WaysR.append h.2 k⟩
theorem WaysR.get {H : Hp} : ∀ {rs : List Addr} {ws : List (List Int)} {i : Nat} {r : Addr}, WaysR H rs ws → rs[i]? = some r → ∃ w, ws[i]? = some w ∧ H r = some (.lst (w.map V.int))
  | [], _, i, r, _, e => by cases e
  | _ :: _, [], i, r, h, _ => h.elim
  | x :: rs, w :: ws, 0, r, h, e => by
    have e' : x = r := Option.some.inj (by simpa using e)
    exact ⟨w, rfl, e' ▸ h.1⟩
  | x :: rs, w :: ws, i + 1, r, h, e => by
    obtain ⟨u, k1, k2⟩ := WaysR.get (i := i) (r := r) h.2 (by simpa using e)
    exact ⟨u, by simpa using k1, k2⟩
theorem WaysR.drop {H : Hp} : ∀ (n : Nat) {rs : List Addr} {ws : List (List Int)}, WaysR H rs ws → WaysR H (rs.drop n) (ws.drop n)
  | 0, _, _, h => h
  | n + 1, [], [], _ => trivial
  | n + 1, [], _ :: _, h => h.elim
  | n + 1, _ :: _, [], h => h.elim
  | n + 1, r :: rs, w :: ws, h => WaysR.drop n h.2
/-- a list of ways made anew -/
def NewW (H H' : Hp) (D : Addr) (rs : List Addr) (ws : List (List Int)) : Prop := Same H H' ∧ H D = none ∧ H' D = some (.lst (rs.map V.ref)) ∧ WaysR H' rs ws ∧ (D :: rs).Nodup ∧ ∀ r, r ∈ rs → H r = none
theorem NewW.start {H : Hp} {D : Addr} (h : H D = none) : NewW H (upd H D (.lst [])) D [] [] := ⟨same_new h _, h, upd_same, trivial, by simp, fun r hr => by cases hr⟩
theorem NewW.step {H H' H2 : Hp} {D : Addr} {rs : List Addr} {ws : List (List Int)} (n : NewW H H' D rs ws) (s : Same H' H2) : NewW H H2 D rs ws := by
  obtain ⟨s0, hD, h1, h2, nd, fr⟩ := n
  exact ⟨s0.trans s, hD, s _ _ h1, h2.frame fun r _ o q => s _ _ q, nd, fr⟩
theorem NewW.of {H0 H H' : Hp} {D : Addr} {rs : List Addr} {ws : List (List Int)} (n : NewW H H' D rs ws) (s : Same H0 H) : NewW H0 H' D rs ws := by
  obtain ⟨s0, hD, h1, h2, nd, fr⟩ := n
  exact ⟨s.trans s0, s.free hD, h1, h2, nd, fun r hr => s.free (fr r hr)⟩
theorem WaysR.some {H : Hp} : ∀ {rs : List Addr} {ws : List (List Int)}, WaysR H rs ws → ∀ r, r ∈ rs → ∃ l, H r = some (.lst l)
  | [], _, _, r, hr => by cases hr
  | _ :: _, [], h, _, _ => h.elim
  | x :: rs, w :: ws, h, r, hr => by
    rcases List.mem_cons.mp hr with e | hr
    · rw [e]; exact ⟨_, h.1⟩
    · exact WaysR.some h.2 r hr
/-- new ways put behind -/
theorem NewW.join {H H' H2 : Hp} {D : Addr} {rs ss : List Addr} {ws us : List (List Int)} (n : NewW H H' D rs ws) (s : Same H' H2) (k : WaysR H2 ss us) (nd2 : ss.Nodup) (fr2 : ∀ r, r ∈ ss → H' r = none) : NewW H (upd H2 D (.lst ((rs ++ ss).map V.ref))) D (rs ++ ss) (ws ++ us) := by
  obtain ⟨s0, hD, h1, h2, nd, fr⟩ := n
  obtain ⟨n1, n2⟩ := List.nodup_cons.mp nd
  have keep : ∀ c, c ≠ D → ∀ o, H2 c = some o → upd H2 D (.lst ((rs ++ ss).map V.ref)) c = some o := fun c hc o q => by rw [upd_ne hc]; exact q
  have ne2 : ∀ c, c ∈ ss → c ≠ D := fun c hc e => by have := fr2 c hc; rw [e, h1] at this; cases this
  refine ⟨fun c o q => keep c (ne_of_none q hD) o (s _ _ (s0 _ _ q)), hD, upd_same, WaysR.append (h2.frame fun r hr o q => keep r (fun e => n1 (e ▸ hr)) o (s _ _ q)) (k.frame fun r hr o q => keep r (ne2 r hr) o q), ?_, fun r hr => ?_⟩
  · refine List.nodup_cons.mpr ⟨fun h => ?_, List.nodup_append.mpr ⟨n2, nd2, fun a ha b hb e => ?_⟩⟩
    · rcases List.mem_append.mp h with h | h
      · exact n1 h
      · exact ne2 D h rfl
    · obtain ⟨l, q⟩ := h2.some a ha
      rw [e, fr2 b hb] at q; cases q
  · rcases List.mem_append.mp hr with h | h
    · exact fr r h
    · exact s0.free (fr2 r h)
def waysD (ws : List (List Int)) : List PyData := ws.map fun w => .list (w.map PyData.int)
theorem WaysR.dp {K : PySem.W.Frag} {H : Hp} : ∀ {rs : List Addr} {ws : List (List Int)}, WaysR H rs ws → DpAll K H (rs.map V.ref) (waysD ws)
  | [], [], _ => .nil
  | [], _ :: _, h => h.elim
  | _ :: _, [], h => h.elim
  | r :: rs, w :: ws, h => .cons (.lst (SqL.of h.1) (dpInts w)) (WaysR.dp h.2)
theorem waysLay : ∀ ws : List (List Int), PyData.canLayAll0 (waysD ws) = true
  | [] => by unfold waysD; rw [List.map_nil, PyData.canLayAll0]
  | w :: ws => by
    have := waysLay ws
    unfold waysD at this ⊢
    rw [List.map_cons, PyData.canLayAll0, PyData.canLay0, intsLay, this]; rfl
theorem waysDepth : ∀ ws : List (List Int), PyData.depthAll (waysD ws) ≤ 1
  | [] => by unfold waysD; rw [List.map_nil, PyData.depthAll]; omega
  | w :: ws => by
    have := waysDepth ws
    unfold waysD at this ⊢
    rw [List.map_cons, PyData.depthAll, PyData.depth, intsDepth]
    omega
theorem waysShaped (ws : List (List Int)) : SeqAt.shaped (.list (waysD ws)) = true := by
  show (PyData.canLay0 (.list (waysD ws)) && decide (PyData.depth (.list (waysD ws)) ≤ 64)) = true
  have h := waysDepth ws
  rw [PyData.canLay0, PyData.depth, waysLay, Bool.true_and]
  exact decide_eq_true (by omega)
theorem waysEqv : ∀ ws us : List (List Int), PyData.eqvAll (waysD ws) (waysD us) = decide (ws = us)
  | [], [] => by unfold waysD; simp [PyData.eqvAll]
  | [], u :: us => by unfold waysD; simp [PyData.eqvAll]
  | w :: ws, [] => by unfold waysD; simp [PyData.eqvAll]
  | w :: ws, u :: us => by
    have := waysEqv ws us
    unfold waysD at this ⊢
    rw [List.map_cons, List.map_cons, PyData.eqvAll, PyData.eqv, intsEqv, this]
    by_cases h : w = u
    · subst h; simp
    · simp [h]
theorem eq_ways {K : PySem.W.Frag} {H : Hp} {a b : Addr} {rs ss : List Addr} {ws us : List (List Int)} {Q : VK} (h1 : SqL K H a (rs.map V.ref)) (k1 : WaysR H rs ws) (h2 : SqL K H b (ss.map V.ref)) (k2 : WaysR H ss us) (q : Q (.bl (decide (ws = us))) H) : rEqD K (.ref a) (.ref b) H Q :=
  ⟨_, _, .lst h1 k1.dp, .lst h2 k2.dp, waysShaped ws, waysShaped us, by rw [PyData.eqv, waysEqv]; exact q⟩
theorem ne_ways {K : PySem.W.Frag} {H : Hp} {a b : Addr} {rs ss : List Addr} {ws us : List (List Int)} {Q : VK} (h1 : SqL K H a (rs.map V.ref)) (k1 : WaysR H rs ws) (h2 : SqL K H b (ss.map V.ref)) (k2 : WaysR H ss us) (q : Q (.bl (!decide (ws = us))) H) : rNeD K (.ref a) (.ref b) H Q :=
  ⟨_, _, .lst h1 k1.dp, .lst h2 k2.dp, waysShaped ws, waysShaped us, by rw [PyData.eqv, waysEqv]; exact q⟩
theorem way_in {ws : List (List Int)} {w : List Int} : ((waysD ws).any fun z => PyData.eqv z (.list (w.map PyData.int))) = decide (w ∈ ws) := by
  unfold waysD
  induction ws with
  | nil => simp
  | cons u ws ih =>
    rw [List.map_cons, List.any_cons, ih, PyData.eqv, intsEqv]
    by_cases h : u = w
    · subst h; simp
    · have : ¬ w = u := fun e => h e.symm
      simp [h, this]
section
variable {P : Program} {w : World} {K : PySem.W.Frag} {mg : Str → Option Value} {base : Heap}
/-! ### is_number -/
inductive NumQ (K : PySem.W.Frag) (H : Hp) : V → Bool → Prop
  | int (i : Int) : NumQ K H (.int i) true
  | bool (b : Bool) : NumQ K H (.bl b) false
  | other {v : V} {ty : Value} (h : TyX K H v ty) (k : PySem.W.kitOne K ty (.type "int") = some false) : NumQ K H v false
def spIsNumber (K : PySem.W.Frag) : Sp := fun vs H Q _ => ∃ v b, vs = [v] ∧ NumQ K H v b ∧ Q (.bl b) H
theorem ok_is_number (T : Txt K mg) : FnOk P w K mg base CX0 1 T.a_is_number T.d_is_number ["thing"] (spIsNumber K) := by
  refine T.F_is_number.ok sc_is_number (fun vs H Q E h => ?_) (fun cdv A outer s H vs Q E hr h => ?_)
  · obtain ⟨v, b, rfl, _⟩ := h; rfl
  obtain ⟨v, b, rfl, hn, q⟩ := h
  refine ⟨_, (pss_one (ps_ret (pe_and (pe_callB (r := rIsi K) call_isi (by rfl) T.z_isinstance (by decide +kernel) (pa_cons (pv 0) (pa_cons (pe_bltn (v := .ty "int") (u := .type "int") (by rfl) T.z_int (by decide +kernel) rfl) pa_nil))) (pe_one (pe_not (pe_callB (r := rIsi K) call_isi (by rfl) T.z_isinstance (by decide +kernel) (pa_cons (pv 0) (pa_cons (pe_bltn (v := .ty "bool") (u := .type "bool") (by rfl) T.z_bool (by decide +kernel) rfl) pa_nil)))))))), ?_⟩
  cases hn with
  | int i =>
    refine ⟨_, rfl, _, _, .type "int", _, true, rfl, ClsV.ty _, .base (.int _), kit_ty (by decide +kernel), _, rfl, iteT ?_⟩
    exact ⟨_, rfl, _, _, .type "int", _, false, rfl, ClsV.ty _, .base (.int _), kit_ty (by decide +kernel), _, rfl, q⟩
  | bool b =>
    refine ⟨_, rfl, _, _, .type "bool", _, true, rfl, ClsV.ty _, .base (.bl _), kit_ty (by decide +kernel), _, rfl, iteT ?_⟩
    exact ⟨_, rfl, _, _, .type "bool", _, true, rfl, ClsV.ty _, .base (.bl _), kit_ty (by decide +kernel), _, rfl, q⟩
  | other h k =>
    exact ⟨_, rfl, _, _, _, _, false, rfl, ClsV.ty _, h, k, _, rfl, iteF q⟩
/-! ### heads_of -/
def wsI (ws : List (List Nat)) : List (List Int) := ws.map wI
def spHeadsOf (n : Nat) : Sp := fun vs H Q _ => ∃ (v : V) (t : Tt), vs = [v] ∧ TreeAt H v t ∧ knots t ≤ 100000 ∧ depth t < n ∧ depth t ≤ 40 ∧ ∀ H' D rs, NewW H H' D rs (wsI (headsT t)) → Q (.ref D) H'
theorem wsI_take1 {ws : List (List Nat)} {k i : Nat} {u : List Nat} (h : ws[i]? = some u) : (ws.take (i + 1)).map (fun w => wI (k :: w)) = (ws.take i).map (fun w => wI (k :: w)) ++ [wI (k :: u)] := by
  rw [take_more h, List.map_append]; rfl
theorem wsI_get {ws : List (List Nat)} {i : Nat} {u : List Int} (h : (wsI ws)[i]? = some u) : ∃ v, ws[i]? = some v ∧ u = wI v := by
  unfold wsI at h
  rw [List.getElem?_map] at h
  cases e : ws[i]? with
  | none => rw [e] at h; cases h
  | some v => rw [e] at h; injection h with h; exact ⟨v, rfl, h.symm⟩
theorem head1_leaf (k : Nat) : head1 k (.mk []) = [[k]] := rfl
theorem head1_not {k : Nat} {b : Tt} (h : b ≠ .mk []) : wsI (head1 k b) = (headsT b).map (fun w => wI (k :: w)) := by
  unfold head1
  rw [if_neg (fun z => h (bs_empty z))]
  unfold wsI
  rw [List.map_map]; rfl
theorem knots_take {bs : List Tt} {i : Nat} : knotsL (bs.take i) ≤ knotsL bs := by
  have := knotsL_append (bs.take i) (bs.drop i)
  rw [List.take_append_drop] at this
  omega
theorem ok_heads_of (T : Txt K mg) : ∀ n, FnOk P w K mg base CX0 n T.a_heads_of T.d_heads_of ["tree"] (spHeadsOf n)
  | 0 => none_left fun vs H Q E ⟨v, t, _, _, _, h, _⟩ => by omega
  | n + 1 => by
    have G_heads_of := ok_heads_of T n
    refine T.F_heads_of.ok sc_heads_of (fun vs H Q E h => ?_) (fun cdv A outer s H vs Q E hr h => ?_)
    · obtain ⟨v, t, rfl, _⟩ := h; rfl
    obtain ⟨v, ⟨bs⟩, rfl, ht, hk, hd, hd40, q⟩ := h
    have R_heads_of : Room n _ := hr
    have hu64 := hr.units
    rw [treeAt_mk] at ht
    obtain ⟨a, xs, rfl, ha, hbs⟩ := ht
    have hk' : 1 + knotsL bs ≤ 100000 := by rw [knots] at hk; exact hk
    have szl : (100000 : Nat) * 10 ≤ sizeLine := by decide
    have hbl := hbs.len
    refine ⟨_, (pss_cons (ps_set (i := 1) sc_heads_of.nd rfl (Or.inl rfl) (pe_lst pa_nil))
      (pss_cons (ps_for PassesOwn.never rfl (pi_enum (by rfl) T.z_enumerate (pa_cons (pv 0) pa_nil)) (pg_tup rfl (pgs_cons (pg_name (i := 2) sc_heads_of.nd rfl (Or.inr rfl)) (pgs_cons (pg_name (i := 3) sc_heads_of.nd rfl (Or.inl rfl)) pgs_nil))) (pss_one (ps_if (pt_cmpR (r := rEqD K) (op_eqD hu64) (pv 3) (pe_lst pa_nil) (nomark _)) (pss_one (ps_expr (pe_bm PySem.F.plainAttrs_list PySem.F.slot_list_append PySem.F.type_list_append mt_append (pv 1) (pa_cons (pe_lst (pa_cons (pv 2) pa_nil)) pa_nil)))) (pss_one (ps_expr (pe_bm PySem.F.plainAttrs_list PySem.F.slot_list_extend PySem.F.type_list_extend mt_extend (pv 1) (pa_cons (pe_lc (own := [("way", 4)]) (g := gName 4) (tt := tYes) rfl sc_heads_of.nd (pi_list (pe_call G_heads_of R_heads_of rfl T.m_heads_of T.k_heads_of T.b_heads_of .nil pass0 (pa_cons (pv 3) pa_nil))) (blkOk_by (own := [("way", 4)]) (N := ["tree", "found", "at", "branch", "way"]) (sc := defScope s_heads_of) (by decide +kernel)) (fun _ _ _ _ _ => (pg_name (i := 4) sc_heads_of.nd rfl (Or.inl rfl))) (fun _ _ _ _ _ => pts_nil) (fun _ _ _ _ _ => (pe_op op_cat (pe_lst (pa_cons (pv 2) pa_nil)) (pv 4)))) pa_nil)))))))
      (pss_one (ps_ret (pv 1))))), ?_⟩
    refine ⟨(by show 0 ≤ sizeLine; decide), fun F nF => ?_⟩
    refine ⟨_, rfl, a, _, rfl, SqL.of ((same_new nF _) _ _ ha), ?_⟩
    refine for_it (walk_enum (xs := xs)) (fun i σ H' => ∃ o2 o3 rs, σ = [some (.ref a), some (.ref F), o2, o3, none] ∧ NewW H H' F rs (wsI (headsL 0 (bs.take i)))) ⟨none, none, [], rfl, NewW.start nF⟩ (fun i σ H' _ p => ?_) ?_ ?_
    · obtain ⟨_, _, _, _, nw⟩ := p
      exact SqL.of (nw.1 _ _ ha)
    · rintro i x σ H1 H2 hi ⟨o2, o3, rs, rfl, nw⟩ ⟨Tp, x1, y1, rfl, nT, rfl, hx, hy⟩
      cases hx
      obtain ⟨b, hb, hxb⟩ := hbs.get hy
      have mb := List.mem_of_getElem? hb
      have kb := knotsL_mem mb
      have db := depthL_le mb
      have dbs : depthL bs ≤ 40 := by rw [depth] at hd40; exact hd40
      have sT := same_new nT (.tup [.int (i : Nat), y1])
      have uT : upd H1 Tp (.tup [.int (i : Nat), y1]) Tp = some (.tup [.int (i : Nat), y1]) := upd_same
      generalize upd H1 Tp (.tup [.int (i : Nat), y1]) = H3 at sT uT ⊢
      have nw3 := nw.step sT
      have tb := TreeAt.same nw3.1 b hxb
      have rl := nw.2.2.2.1.len
      have hl : (wsI (headsL 0 (bs.take i))).length ≤ 100000 := by
        unfold wsI
        rw [List.length_map]
        have h1 := headsL_len 0 (bs.take i)
        have h2 := knots_take (bs := bs) (i := i)
        omega
      have es : headsL 0 (bs.take (i + 1)) = headsL 0 (bs.take i) ++ head1 i b := by
        rw [take_more hb, headsL_snoc, Nat.zero_add, List.length_take, Nat.min_eq_left (by omega)]
      refine ⟨Tp, _, rfl, SqT.of uT, rfl, _, _, rfl, _, _, rfl, rfl, ?_⟩
      refine ⟨_, rfl, (by show 0 ≤ sizeLine; decide), fun p np => ?_⟩
      have sp := same_new np (.lst [])
      have up : upd H3 p (.lst []) p = some (.lst []) := upd_same
      generalize upd H3 p (.lst []) = H4 at sp up ⊢
      have nw4 := nw3.step sp
      refine eq_trees (TreeAt.same sp _ tb) (nil_tree up) (by omega) (by rw [depth, depthL]; omega) ⟨_, rfl, ite2 (fun c => ?_) (fun c => ?_)⟩
      · have eb : b = .mk [] := of_decide_eq_true c
        subst eb
        refine ⟨_, rfl, .inl ⟨rfl, _, SqL.of nw4.2.2.1⟩, _, rfl, (by show 1 ≤ sizeLine; decide), fun p2 np2 => ?_⟩
        have sp2 := same_new np2 (.lst [V.int (i : Nat)])
        have up2 : upd H4 p2 (.lst [V.int (i : Nat)]) p2 = some (.lst [V.int (i : Nat)]) := upd_same
        generalize upd H4 p2 (.lst [V.int (i : Nat)]) = H5 at sp2 up2 ⊢
        have nj := nw4.join (ss := [p2]) (us := [wI [i]]) sp2 ⟨up2, trivial⟩ (by simp) (fun r hr => by rw [List.mem_singleton] at hr; rw [hr]; exact np2)
        refine ⟨_, _, _, rfl, rfl, sp2 _ _ nw4.2.2.1, ?_, _, _, rs ++ [p2], rfl, ?_⟩
        · rw [List.length_map]; omega
        · rw [es, head1_leaf]
          unfold wsI at nj ⊢
          rw [List.map_append]
          rw [List.map_append] at nj
          exact nj
      · have eb : b ≠ .mk [] := of_decide_eq_false (Bool.eq_false_iff.mpr c)
        refine ⟨_, rfl, .inl ⟨rfl, _, SqL.of nw4.2.2.1⟩, _, rfl, y1, b, rfl, TreeAt.same sp b tb, by omega, depth_bs hd mb, by omega, fun H5 D2 rs2 n5 => ?_⟩
        refine ⟨D2, rfl, ⟨_, SqL.of n5.2.2.1⟩, fun D nD => ?_⟩
        refine lc_it (walk_list (xs := rs2.map V.ref)) (fun j H' => ∃ ss, NewW H5 H' D ss (((headsT b).take j).map fun w => wI (i :: w))) ⟨[], NewW.start nD⟩ (fun j H' _ g => by obtain ⟨ss, g⟩ := g; exact SqL.of (g.1 _ _ n5.2.2.1)) ?_ ?_
        · rintro j x H6 H7 hj ⟨ss, g⟩ ⟨rfl, hx⟩
          rw [List.getElem?_map] at hx
          obtain ⟨r, hr, e⟩ := Option.map_eq_some_iff.mp hx
          subst e
          obtain ⟨u, hu, hru⟩ := n5.2.2.2.1.get hr
          obtain ⟨w0, hw0, e0⟩ := wsI_get hu
          subst e0
          have lw := (heads_way b w0 (List.mem_of_getElem? hw0)).2
          have dk := depth_knots b
          have hj2 := (List.getElem?_eq_some_iff.mp hw0).1
          have lh := heads_len b
          have gl := g.2.2.2.1.len
          rw [List.length_map, List.length_take] at gl
          refine ⟨rfl, _, rfl, (by show 1 ≤ sizeLine; decide), fun p2 np2 => ?_⟩
          have sp2 := same_new np2 (.lst [V.int (i : Nat)])
          have up2 : upd H7 p2 (.lst [V.int (i : Nat)]) p2 = some (.lst [V.int (i : Nat)]) := upd_same
          generalize upd H7 p2 (.lst [V.int (i : Nat)]) = H8 at sp2 up2 ⊢
          refine ⟨_, rfl, p2, r, _, _, rfl, rfl, up2, sp2 _ _ (g.1 _ _ hru), ?_, fun p3 np3 => ?_⟩
          · rw [List.length_map, wI_len, List.length_singleton]; omega
          have sp3 := same_new np3 (.lst ([V.int (i : Nat)] ++ (wI w0).map V.int))
          have up3 : upd H8 p3 (.lst ([V.int (i : Nat)] ++ (wI w0).map V.int)) p3 = some (.lst ([V.int (i : Nat)] ++ (wI w0).map V.int)) := upd_same
          generalize upd H8 p3 (.lst ([V.int (i : Nat)] ++ (wI w0).map V.int)) = H9 at sp3 up3 ⊢
          have nj := g.join (ss := [p3]) (us := [wI (i :: w0)]) (sp2.trans sp3) ⟨up3, trivial⟩ (by simp) (fun r hr => by rw [List.mem_singleton] at hr; rw [hr]; exact sp2.free np3)
          refine ⟨_, (sp2.trans sp3) _ _ g.2.2.1, ?_, ss ++ [p3], ?_⟩
          · rw [List.length_map]; omega
          · rw [wsI_take1 hw0]
            rw [List.map_append] at nj
            exact nj
        · rintro H6 ⟨ss, g⟩
          have lr : (rs2.map V.ref).length = (headsT b).length := by
            rw [List.length_map, n5.2.2.2.1.len]
            unfold wsI
            rw [List.length_map]
          rw [lr, List.take_length] at g
          have gl := g.2.2.2.1.len
          rw [List.length_map] at gl
          have lh := heads_len b
          have s56 := n5.1.trans g.1
          have nj := nw4.join s56 g.2.2.2.1 (List.nodup_cons.mp g.2.2.2.2.1).2 (fun r hr => n5.1.free (g.2.2.2.2.2 r hr))
          refine ⟨_, _, _, _, rfl, rfl, s56 _ _ nw4.2.2.1, g.2.2.1, ?_, _, _, rs ++ ss, rfl, ?_⟩
          · rw [List.length_map, List.length_map]; omega
          · rw [es]
            have e1 : wsI (headsL 0 (bs.take i) ++ head1 i b) = wsI (headsL 0 (bs.take i)) ++ (headsT b).map (fun w => wI (i :: w)) := by
              rw [← head1_not eb]
              unfold wsI
              rw [List.map_append]
            rw [e1]
            rw [List.map_append] at nj
            exact nj
    · rintro σ H1 ⟨o2, o3, rs, rfl, nw⟩
      rw [hbl, List.take_length] at nw
      refine ⟨_, rfl, q _ _ rs ?_⟩
      rw [headsT_mk]; exact nw
end
section
variable {P : Program} {w : World} {K : PySem.W.Frag} {mg : Str → Option Value} {base : Heap}
/-! ### heads -/
def spHeads (A : Addr) : Sp := fun vs H Q E => ∃ v, vs = [v] ∧ ((∃ t, TreeAt H v t ∧ okT t ∧ ∀ H' D rs, NewW H H' D rs (wsI (headsT t)) → Q (.ref D) H') ∨ (Bad H v ∧ ∀ H', Same H H' → E (.ref A) none H'))
theorem ok_heads (T : Txt K mg) : FnOk P w K mg base (L2N.CX P w) 44 T.a_heads T.d_heads ["tree"] (spHeads T.A_BadTree) := by
  have G_asked_tree := ok_asked_tree (P := P) (w := w) (base := base) T
  have G_heads_of := ok_heads_of (P := P) (w := w) (base := base) T 41
  refine okN T.F_heads sc_heads (fun vs H Q E h => ?_) (fun cdv A outer s H vs Q E hr h => ?_)
  · obtain ⟨v, rfl, _⟩ := h; rfl
  obtain ⟨v, rfl, h⟩ := h
  have R_asked_tree : Room 43 _ := hr
  have R_heads_of : Room 41 _ := hr.mono (by omega)
  refine ⟨_, (pss_cons (ps_expr (pe_call G_asked_tree R_asked_tree rfl T.m_asked_tree T.k_asked_tree T.b_asked_tree .nil (L2N.passes_call (L2N.takes_of rfl rfl rfl rfl) (fun _ _ _ _ h => h)) (pa_cons (pv 0) pa_nil)))
      (pss_one (ps_ret (pe_call G_heads_of R_heads_of rfl T.m_heads_of T.k_heads_of T.b_heads_of .nil pass0 (pa_cons (pv 0) pa_nil))))), ?_⟩
  rcases h with ⟨t, ht, ho, q⟩ | ⟨hb, q⟩
  · refine ⟨_, rfl, v, rfl, .inl ⟨t, ht, ho, fun H1 s1 => ?_⟩⟩
    exact ⟨_, rfl, v, t, rfl, TreeAt.same s1 _ ht, Nat.le_trans ho.1 (by decide), ho.dp, ho.2, fun H2 D rs nw => q _ _ rs (nw.of s1)⟩
  · exact ⟨_, rfl, v, rfl, .inr ⟨hb, q⟩⟩
/-! ### knot_at -/
def mI (wy : List Nat) : List V := (wI wy).map V.int
theorem mI_app (a b : List Nat) : mI (a ++ b) = mI a ++ mI b := by unfold mI wI; rw [List.map_append, List.map_append]
theorem mI_len (a : List Nat) : (mI a).length = a.length := by unfold mI wI; rw [List.length_map, List.length_map]
theorem mI_get {wy : List Nat} {i : Nat} {x : V} (h : (mI wy)[i]? = some x) : ∃ k, wy[i]? = some k ∧ x = .int (k : Nat) := by
  unfold mI wI at h
  rw [List.getElem?_map, List.getElem?_map] at h
  cases e : wy[i]? with
  | none => rw [e] at h; cases h
  | some k => rw [e] at h; exact ⟨k, rfl, (Option.some.inj h).symm⟩
def spKnotAt (K : PySem.W.Frag) : Sp := fun vs H Q _ => ∃ v b wy u, vs = [v, .ref b] ∧ SqL K H b (mI wy) ∧ Walk H v wy u ∧ Q u H
theorem ok_knot_at (T : Txt K mg) : FnOk P w K mg base CX0 1 T.a_knot_at T.d_knot_at ["tree", "way"] (spKnotAt K) := by
  refine T.F_knot_at.ok sc_knot_at (fun vs H Q E h => ?_) (fun cdv A outer s H vs Q E hr h => ?_)
  · obtain ⟨v, b, wy, u, rfl, _⟩ := h; rfl
  obtain ⟨v, b, wy, u, rfl, hb, hw, q⟩ := h
  refine ⟨_, (pss_cons (ps_for PassesOwn.never rfl (pi_list (pv 1)) (pg_name (i := 2) sc_knot_at.nd rfl (Or.inl rfl)) (pss_one (ps_set (i := 0) sc_knot_at.nd rfl (Or.inl rfl) (pe_ix (r := rIxL K) ix_list (pv 0) (pv 2) (fun _ _ => rfl)))))
      (pss_one (ps_ret (pv 0)))), ?_⟩
  refine ⟨_, rfl, b, rfl, ⟨_, hb⟩, ?_⟩
  refine for_it (walk_list (xs := mI wy)) (fun i σ H' => H' = H ∧ ∃ m o, σ = [some m, some (.ref b), o] ∧ Walk H m (wy.drop i) u) ⟨rfl, v, none, rfl, by rw [List.drop_zero]; exact hw⟩ (fun i σ H' _ p => ?_) ?_ ?_
  · obtain ⟨rfl, _⟩ := p; exact hb
  · rintro i x σ H1 H2 hi ⟨rfl, m, o, rfl, hm⟩ ⟨rfl, hx⟩
    obtain ⟨k, hk, rfl⟩ := mI_get hx
    rw [drop_get hk] at hm
    obtain ⟨a, xs, y, rfl, ha, hy, hm⟩ := hm
    exact ⟨_, rfl, _, rfl, a, xs, _, y, rfl, rfl, SqL.of ha, atI_nat hy, rfl, y, _, rfl, hm⟩
  · rintro σ H1 ⟨rfl, m, o, rfl, hm⟩
    rw [mI_len, List.drop_length, walk_nil] at hm
    subst hm
    exact ⟨_, rfl, q⟩
/-! ### cut_of -/
theorem cutV_m1 (ys : List V) (x : V) : cutV (ys ++ [x]) none (some (-1)) = ys := by
  unfold cutV
  have e : HT.sIx (ys ++ [x]).length (ys ++ [x]).length (some (-1)) = ys.length := by
    show (if (-1 : Int) < 0 then ((-1 : Int) + ((ys ++ [x]).length : Int)).toNat else min (-1 : Int).toNat (ys ++ [x]).length) = _
    rw [if_pos (by decide), List.length_append, List.length_singleton]
    omega
  rw [HT.sIx_none, e, List.drop_zero, Nat.sub_zero, List.take_left]
theorem cutV_m2 (ys : List V) (x y : V) : cutV (ys ++ [x, y]) none (some (-2)) = ys := by
  unfold cutV
  have e : HT.sIx (ys ++ [x, y]).length (ys ++ [x, y]).length (some (-2)) = ys.length := by
    show (if (-2 : Int) < 0 then ((-2 : Int) + ((ys ++ [x, y]).length : Int)).toNat else min (-2 : Int).toNat (ys ++ [x, y]).length) = _
    rw [if_pos (by decide), List.length_append]
    show ((-2 : Int) + ((ys.length + 2 : Nat) : Int)).toNat = _
    omega
  rw [HT.sIx_none, e, List.drop_zero, Nat.sub_zero, List.take_left]
theorem cut_last {t r : Tt} {wy : List Nat} {n : Nat} (h : Cut t wy n r) : ∃ w1 i bs, wy = w1 ++ [i] ∧ subT t w1 = some (.mk bs) ∧ bs[i]? = some (.mk []) ∧
    ((w1 = [] ∧ r = .mk (bs.eraseIdx i) ∧ t = .mk bs) ∨ ∃ w0 j cs, w1 = w0 ++ [j] ∧ subT t w0 = some (.mk cs) ∧ cs[j]? = some (.mk bs) ∧ r = putT t w0 (.mk (cs.set j (.mk (bs.eraseIdx i)) ++ List.replicate n (.mk (bs.eraseIdx i))))) := by
  cases h with
  | @root bs i _ h => exact ⟨[], i, bs, rfl, subT_nil _, h, .inl ⟨rfl, rfl, rfl⟩⟩
  | @up _ w0 cs bs j i _ h1 h2 h3 => exact ⟨w0 ++ [j], i, bs, by simp, up_sub h1 h2, h3, .inr ⟨w0, j, cs, rfl, h1, h2, rfl⟩⟩
theorem sub_knots {t s : Tt} {wy : List Nat} (h : subT t wy = some s) : knots s ≤ knots t := by
  have h1 := knots_put (s' := .mk []) h
  have h2 := depth_knots1 (putT t wy (.mk []))
  have h3 : knots (.mk []) = 1 := by rw [knots, knotsL]
  omega
theorem sub_depth : ∀ {wy : List Nat} {t s : Tt}, subT t wy = some s → depth s + wy.length ≤ depth t
  | [], t, s, h => by rw [subT_nil] at h; cases h; exact Nat.le_refl _
  | i :: wy, .mk bs, s, h => by
    obtain ⟨b, h1, h2⟩ := subT_step h
    have h3 := sub_depth h2
    have h4 := depthL_le (List.mem_of_getElem? h1)
    rw [depth, List.length_cons]
    omega
theorem cut_times {t : Tt} {w0 : List Nat} {cs : List Tt} {s' : Tt} {j n : Nat} (h1 : subT t w0 = some (.mk cs)) : n ≤ knots (putT t w0 (.mk (cs.set j s' ++ List.replicate n s'))) := by
  have h2 := knots_put (s' := .mk (cs.set j s' ++ List.replicate n s')) h1
  have h3 := sub_knots h1
  have h4 := depth_knots1 s'
  have h5 : n ≤ n * knots s' := Nat.le_mul_of_pos_right _ h4
  rw [knots, knots, knotsL_append, knotsL_rep] at h2
  rw [knots] at h3
  omega
def spCutOf : Sp := fun vs H Q _ => ∃ v b t wy n r, vs = [v, .ref b, .int (n : Nat)] ∧ TreeAt H v t ∧ okT t ∧ H b = some (.lst (mI wy)) ∧ Cut t wy n r ∧ knots r ≤ 300 ∧ ∀ H' x, New H H' x r → Q x H'
theorem ok_cut_of (T : Txt K mg) : FnOk P w K mg base CX0 42 T.a_cut_of T.d_cut_of ["tree", "way", "times"] spCutOf := by
  have G_copied := ok_copied (P := P) (w := w) (base := base) T 41
  have G_knot_at := ok_knot_at (P := P) (w := w) (base := base) T
  refine T.F_cut_of.ok sc_cut_of (fun vs H Q E h => ?_) (fun cdv A outer s H vs Q E hr h => ?_)
  · obtain ⟨v, b, t, wy, n, r, rfl, _⟩ := h; rfl
  obtain ⟨v, b, t, wy, n, r, rfl, ht, ho, hb, hc, hk, q⟩ := h
  have R_copied : Room 41 _ := hr
  have R_knot_at : Room 1 _ := hr.mono (by omega)
  refine ⟨_, (pss_cons (ps_set (i := 3) sc_cut_of.nd rfl (Or.inl rfl) (pe_call G_copied R_copied rfl T.m_copied T.k_copied T.b_copied .nil pass0 (pa_cons (pv 0) pa_nil)))
      (pss_cons (ps_set (i := 4) sc_cut_of.nd rfl (Or.inr rfl) (pe_call G_knot_at R_knot_at rfl T.m_knot_at T.k_knot_at T.b_knot_at .nil pass0 (pa_cons (pv 3) (pa_cons (pe_slice (r := rSlL K) sl_list (pv 1) po_none (po_some (pe_un un_neg pe_int))) pa_nil))))
      (pss_cons (ps_expr (pe_bm PySem.F.plainAttrs_list PySem.F.slot_list_pop PySem.F.type_list_pop mt_popAt (pv 4) (pa_cons (pe_ix (r := rIxL K) ix_list (pv 1) (pe_un un_neg pe_int) (fun _ _ => rfl)) pa_nil)))
      (pss_cut2 (ps_if (pt_cmpR op_gt (pe_callB (r := rLenS K) call_len_seqK rfl T.z_len PySem.boot_len (pa_cons (pv 1) pa_nil)) pe_int (nomark _)) (pss_one (ps_expr (pe_bm PySem.F.plainAttrs_list PySem.F.slot_list_extend PySem.F.type_list_extend mt_extend (pe_call G_knot_at R_knot_at rfl T.m_knot_at T.k_knot_at T.b_knot_at .nil pass0 (pa_cons (pv 3) (pa_cons (pe_slice (r := rSlL K) sl_list (pv 1) po_none (po_some (pe_un un_neg pe_int))) pa_nil))) (pa_cons (pe_lc (own := [("time", 5)]) (g := gName 5) (tt := tYes) rfl sc_cut_of.nd (pi_range1 (by rfl) T.z_range (pa_cons (pv 2) pa_nil)) (blkOk_by (own := [("time", 5)]) (N := ["tree", "way", "times", "found", "bearer", "time"]) (sc := defScope s_cut_of) (by decide +kernel)) (fun _ _ _ _ _ => (pg_name (i := 5) sc_cut_of.nd rfl (Or.inl rfl))) (fun _ _ _ _ _ => pts_nil) (fun _ _ _ _ _ => (pe_call G_copied R_copied rfl T.m_copied T.k_copied T.b_copied .nil pass0 (pa_cons (pv 4) pa_nil)))) pa_nil)))) pss_nil)
      (pss_one (ps_ret (pv 3))))))), ?_⟩
  obtain ⟨w1, i, bs, rfl, hs, hi, hcase⟩ := cut_last hc
  clear hc
  refine ⟨_, rfl, v, t, rfl, ht, ho.fit, ho.dp, fun H1 x n1 => ?_⟩
  refine ⟨_, rfl, _, rfl, _, rfl, _, rfl, b, _, rfl, SqL.of (n1.1 _ _ hb), fun p np => ?_⟩
  have e1 : cutV (mI (w1 ++ [i])) none (some (-1)) = mI w1 := by rw [mI_app]; exact cutV_m1 _ _
  have sp := same_new np (.lst (cutV (mI (w1 ++ [i])) none (some (-1))))
  have up : upd H1 p (.lst (cutV (mI (w1 ++ [i])) none (some (-1)))) p = some (.lst (mI w1)) := by rw [upd_same, e1]
  generalize upd H1 p (.lst (cutV (mI (w1 ++ [i])) none (some (-1)))) = H2 at sp up ⊢
  have n2 := n1.step sp
  have kbs := sub_knots hs
  have lbs := knotsL_len bs
  have oi := (List.getElem?_eq_some_iff.mp hi).1
  have kt := ho.1
  have dbs := sub_depth hs
  have dt := ho.2
  obtain ⟨au, xs, k1, ha, hx, _, er, _⟩ := n2.knot hs
  obtain ⟨n3, t3, _⟩ := er i _ hi
  obtain ⟨y, hy, _⟩ := hx.get' hi
  have lx := hx.len
  refine ⟨x, p, w1, .ref au, rfl, SqL.of up, k1, ?_⟩
  refine ⟨_, rfl, .inl ⟨rfl, _, SqL.of ha⟩, _, rfl, _, rfl, b, _, _, .int (i : Nat), rfl, rfl, SqL.of (n2.1 _ _ hb), by rw [mI_app]; exact atI_last _ _, ?_⟩
  refine ⟨au, xs, (i : Int), i, y, rfl, rfl, ha, ?_, ?_, ?_, hy, ?_⟩
  · omega
  · rw [knots] at kbs; omega
  · rw [PySem.StrLaws.seqIndex_nonneg (by omega) (by omega), Int.toNat_natCast]
  have hb3 := n3.1 _ _ hb
  generalize upd H2 au (.lst (xs.eraseIdx i)) = H3 at n3 t3 hb3 ⊢
  refine ⟨fun σ' H' => σ' = [some v, some (.ref b), some (.int (n : Nat)), some x, some (.ref au), none] ∧ New H H' x r, ?_, ?_⟩
  · refine ⟨_, rfl, b, _, rfl, .inl (SqL.of hb3), _, _, rfl, rfl, _, rfl, ite2 (fun c => ?_) (fun c => ?_)⟩
    · have c' : (1 : Int) < (((mI (w1 ++ [i])).length : Nat) : Int) := of_decide_eq_true c
      rw [mI_len, List.length_append, List.length_singleton] at c'
      rcases hcase with ⟨e, _⟩ | ⟨w0, j, cs, rfl, h1, h2, rfl⟩
      · rw [e] at c'; exact absurd c' (by decide)
      · have e2 : cutV (mI (w0 ++ [j] ++ [i])) none (some (-2)) = mI w0 := by
          have e : w0 ++ [j] ++ [i] = w0 ++ [j, i] := by simp
          rw [e, mI_app]; exact cutV_m2 _ _ _
        refine ⟨_, rfl, _, rfl, _, rfl, _, rfl, b, _, rfl, SqL.of hb3, fun p2 np2 => ?_⟩
        have sp2 := same_new np2 (.lst (cutV (mI (w0 ++ [j] ++ [i])) none (some (-2))))
        have up2 : upd H3 p2 (.lst (cutV (mI (w0 ++ [j] ++ [i])) none (some (-2)))) p2 = some (.lst (mI w0)) := by rw [upd_same, e2]
        generalize upd H3 p2 (.lst (cutV (mI (w0 ++ [j] ++ [i])) none (some (-2)))) = H4 at sp2 up2 ⊢
        have n4 := n3.step sp2
        have t4 := TreeAt.same sp2 _ t3
        have hs4 : subT (putT t (w0 ++ [j]) (.mk (bs.eraseIdx i))) w0 = some (.mk (cs.set j (.mk (bs.eraseIdx i)))) := by rw [subT_put h1, putT_cons h2, putT_nil]
        obtain ⟨au2, xs2, k2, ha2, hx2, _, _, gr⟩ := n4.knot hs4
        have lx2 := hx2.len
        have nk := cut_times (n := n) (j := j) (s' := .mk (bs.eraseIdx i)) h1
        have kcs := sub_knots h1
        have lcs := knotsL_len cs
        rw [List.length_set] at lx2
        rw [knots] at kcs kbs
        have fs : okT (.mk (bs.eraseIdx i)) := by
          have h4 := knotsL_erase hi
          have h5 := depthL_erase bs i
          rw [depth] at dbs
          exact ⟨by rw [knots]; omega, by rw [depth]; omega⟩
        refine ⟨x, p2, w0, .ref au2, rfl, SqL.of up2, k2, .inl ⟨rfl, _, SqL.of ha2⟩, ?_⟩
        refine ⟨_, rfl, _, rfl, by omega, by omega, fun D nD => ?_⟩
        rw [Int.toNat_natCast]
        refine lc_it walk_range (fun k H' => Grow H4 H' D (List.replicate k (.mk (bs.eraseIdx i)))) (Grow.start nD) (fun _ _ _ _ => trivial) ?_ ?_
        · rintro k z H5 H6 hk5 g ⟨rfl, rfl⟩
          refine ⟨rfl, _, rfl, .ref au, _, rfl, TreeAt.same g.same _ t4, fs.fit, fs.dp, fun H7 r7 n7 => ?_⟩
          obtain ⟨acc, m1, m2, m3⟩ := g.more n7
          refine ⟨acc, m1, ?_, ?_⟩
          · rw [m2, List.length_replicate]
            exact Nat.lt_of_le_of_lt (m := 1000) (by omega) (by decide)
          · rw [List.replicate_succ']; exact m3
        · rintro H5 ⟨s45, _, acc, as, hD, ow, nd, fr⟩
          have la := ow.len
          rw [List.length_replicate] at la
          have g2 := GrowAt.ext ha2 s45 ow (List.nodup_cons.mp nd).2 fr
          obtain ⟨nf, _⟩ := gr _ _ _ g2
          rw [putT_put h1] at nf
          exact ⟨au2, D, xs2, acc, rfl, rfl, s45 _ _ ha2, hD, Nat.le_trans (show xs2.length + acc.length ≤ 1000 by omega) (by decide), rfl, nf⟩
    · have c' : ¬ (1 : Int) < (((mI (w1 ++ [i])).length : Nat) : Int) := of_decide_eq_false (Bool.eq_false_iff.mpr c)
      rw [mI_len, List.length_append, List.length_singleton] at c'
      rcases hcase with ⟨rfl, rfl, rfl⟩ | ⟨w0, j, cs, rfl, _⟩
      · rw [putT_nil] at n3
        exact ⟨rfl, n3⟩
      · rw [List.length_append, List.length_singleton] at c'
        omega
  · rintro σ' H' ⟨rfl, nr⟩
    exact ⟨_, rfl, q _ _ nr⟩
end
section
variable {P : Program} {w : World} {K : PySem.W.Frag} {mg : Str → Option Value} {base : Heap}
/-- a new tree may be spoilt: what stood before it stays, and what was made behind it -/
theorem New.spoil {H1 H2 H3 : Hp} {v : V} {t : Tt} (n : New H1 H2 v t) (s : Same H2 H3) : ∃ as, Own H3 v t as ∧ as.Nodup ∧
    ∀ H4, (∀ b o, b ∉ as → H3 b = some o → H4 b = some o) → Same H1 H4 ∧ (∀ b o, H2 b = none → H3 b = some o → H4 b = some o) ∧ ∀ {H' : Hp} {u : V} {r : Tt}, New H2 H' u r → Same H' H3 → TreeAt H4 u r := by
  obtain ⟨s12, as, o, nd, fr⟩ := n
  refine ⟨as, Own.frame t o fun a _ u e => s _ _ e, nd, fun H4 k => ?_⟩
  have tr : ∀ b, H2 b = none → b ∉ as := fun b hb h => by obtain ⟨xs, e⟩ := Own.tracked t o b h; rw [hb] at e; cases e
  refine ⟨fun b u e => k b u (fun h => by rw [fr b h] at e; cases e) (s _ _ (s12 _ _ e)), fun b u hb e => k b u (tr b hb) e, fun {H' u r} m s' => ?_⟩
  obtain ⟨s2, bs, o2, _, fr2⟩ := m
  exact Own.at_ r (Own.frame r o2 fun a ha x e => k a x (tr a (fr2 a ha)) (s' _ _ e))
theorem depth41 {t : Tt} (h : okT t) : depth t < 41 := h.dp
theorem dep63 {t : Tt} (h : okT t) : depth t ≤ 63 := Nat.le_trans h.2 (by decide)
theorem knotsL_perm {l m : List Tt} (p : l.Perm m) : knotsL l = knotsL m := by
  induction p with
  | nil => rfl
  | cons x _ ih => rw [knotsL, knotsL, ih]
  | swap x y l => rw [knotsL, knotsL, knotsL, knotsL]; omega
  | trans _ _ ih1 ih2 => rw [ih1, ih2]
theorem knotsL_map {f : Tt → Tt} : ∀ {l : List Tt}, (∀ x, x ∈ l → knots (f x) = knots x) → knotsL (l.map f) = knotsL l
  | [], _ => rfl
  | x :: l, h => by rw [List.map_cons, knotsL, knotsL, h x List.mem_cons_self, knotsL_map fun y hy => h y (List.mem_cons_of_mem _ hy)]
theorem knots_told (t : Tt) : knots (told t) = knots t := by
  induction t using Tt.ind with
  | h l ih =>
    rw [told_mk, knots, knots, knotsL_perm (toldL_perm l []), List.nil_append, knotsL_map ih]
theorem okT_told {t : Tt} (h : okT t) : okT (told t) := ⟨by rw [knots_told]; exact h.1, Nat.le_trans (depth_told_le t) h.2⟩
theorem fit_ok {t : Tt} (h : okT t) : fit t := h.fit
theorem kn_lim {t : Tt} (h : okT t) : knots t ≤ lim - 1 := Nat.le_trans h.1 (by decide)
end
section
variable {P : Program} {w : World} {K : PySem.W.Frag} {mg : Str → Option Value} {base : Heap}
/-! ### what may be no way, no times -/
theorem Same.seqT {H H' : Hp} {a : Addr} {xs : List V} (e : Same H H') (h : SqT K H a xs) : SqT K H' a xs := by
  rcases h with (h | ⟨o, h⟩) | h
  · exact .inl (.inl (e _ _ h))
  · exact .inl (.inr ⟨o, e _ _ h⟩)
  · exact .inr h
mutual
theorem dp_same {H H' : Hp} (s : Same H H') : ∀ {v : V} {d : PyData}, Dp K H v d → Dp K H' v d
  | _, _, .non => .non
  | _, _, .bl b => .bl b
  | _, _, .int i => .int i
  | _, _, .str x => .str x
  | _, _, .lst h k => .lst (s.seq h) (dpAll_same s k)
  | _, _, .tup h k => .tup (Same.seqT s h) (dpAll_same s k)
theorem dpAll_same {H H' : Hp} (s : Same H H') : ∀ {vs : List V} {ds : List PyData}, DpAll K H vs ds → DpAll K H' vs ds
  | _, _, .nil => .nil
  | _, _, .cons h k => .cons (dp_same s h) (dpAll_same s k)
end
theorem units65 {k : Nat} {A : Around} (r : Room k A) : A.units + 65 < cLine := by have := r.un; omega
inductive NoNum (H : Hp) : V → Prop
  | leaf {v : V} (h : Leaf H v) (n : ∀ i, v ≠ .int i) : NoNum H v
  | lst {a : Addr} {xs : List V} (h : H a = some (.lst xs)) : NoNum H (.ref a)
theorem NoNum.same {H H' : Hp} {v : V} (s : Same H H') (h : NoNum H v) : NoNum H' v := by
  cases h with
  | leaf h n => exact .leaf (h.same s) n
  | lst h => exact .lst (s _ _ h)
theorem NoNum.num {H : Hp} {v : V} (h : NoNum H v) : NumQ K H v false := by
  cases h with
  | lst h => exact .other (.base (.lst h)) (kit_ty (by decide +kernel))
  | leaf h n =>
    cases h with
    | non => exact .other (.base .non) (kit_ty (by decide +kernel))
    | bl b => exact .bool b
    | int i => exact absurd rfl (n i)
    | str x => exact .other (.base (.str x)) (kit_ty (by decide +kernel))
    | tup e => exact .other (.base (.tup e)) (kit_ty (by decide +kernel))
    | dK e => exact .other (.base (.dK e)) (kit_ty (by decide +kernel))
inductive NumB (H : Hp) : V → Bool → Prop
  | int (i : Int) : NumB H (.int i) true
  | no {v : V} (h : NoNum H v) : NumB H v false
theorem NumB.num {H : Hp} {v : V} {b : Bool} (h : NumB H v b) : NumQ K H v b := by
  cases h with
  | int i => exact .int i
  | no h => exact h.num
theorem NumB.same {H H' : Hp} {v : V} {b : Bool} (s : Same H H') (h : NumB H v b) : NumB H' v b := by
  cases h with
  | int i => exact .int i
  | no h => exact .no (h.same s)
/-- whether it is refused as a way: no list, not among the heads' ways, or not of numbers -/
def WayB (K : PySem.W.Frag) (H : Hp) (t : Tt) (way : V) (c : Bool) : Prop := (Leaf H way ∧ c = true) ∨ ∃ (b : Addr) (xs : List V) (d : PyData) (bs : List Bool), way = .ref b ∧ H b = some (.lst xs) ∧ Dp K H way d ∧ SeqAt.shaped d = true ∧ xs.length ≤ 1000 ∧ bs.length = xs.length ∧
  (∀ (i : Nat) (x : V), xs[i]? = some x → ∃ y, bs[i]? = some y ∧ NumB H x y) ∧ c = (!((waysD (wsI (headsT t))).any fun z => PyData.eqv z d) || !(bs.all id))
theorem WayB.same {H H' : Hp} {t : Tt} {way : V} {c : Bool} (s : Same H H') (h : WayB K H t way c) : WayB K H' t way c := by
  rcases h with ⟨h, e⟩ | ⟨b, xs, d, bs, e, h1, h2, h3, h4, h5, h6, h7⟩
  · exact .inl ⟨h.same s, e⟩
  · exact .inr ⟨b, xs, d, bs, e, s _ _ h1, dp_same s h2, h3, h4, h5, fun i x hx => let ⟨y, k1, k2⟩ := h6 i x hx; ⟨y, k1, k2.same s⟩, h7⟩
theorem wayB_good {H : Hp} {t : Tt} {b : Addr} {wy : List Nat} (h : H b = some (.lst (mI wy))) (hw : wy ∈ headsT t) (hd : depth t ≤ 40) : WayB K H t (.ref b) false := by
  have lw := (heads_way t wy hw).2
  refine .inr ⟨b, _, _, List.replicate wy.length true, rfl, h, .lst (SqL.of h) (dpInts (wI wy)), intsShaped _, by rw [mI_len]; omega, by rw [List.length_replicate, mI_len], fun i x hx => ?_, ?_⟩
  · obtain ⟨k, hk, rfl⟩ := mI_get hx
    have hi := (List.getElem?_eq_some_iff.mp hk).1
    exact ⟨true, by rw [List.getElem?_replicate, if_pos hi], .int _⟩
  · rw [way_in, decide_eq_true (show wI wy ∈ wsI (headsT t) from List.mem_map_of_mem hw)]
    simp
def NoTimes (H : Hp) (v : V) : Prop := NoNum H v ∨ ∃ i : Int, v = .int i ∧ i < 0
theorem NoTimes.same {H H' : Hp} {v : V} (s : Same H H') (h : NoTimes H v) : NoTimes H' v := h.imp (fun k => k.same s) id
/-! ### cut -/
theorem size_int {t s : Tt} {wy : List Nat} {n : Nat} (hs : subT t wy.dropLast = some s) (hl : 1 < wy.length) : (n : Int) * ((knots s : Int) - 1) + (knots t : Int) - 1 = ((sizeT t wy n : Nat) : Int) := by
  unfold sizeT bearer
  rw [hs, if_pos hl]
  have h1 := depth_knots1 s
  have h2 := depth_knots1 t
  obtain ⟨k, hk⟩ : ∃ k, knots s = k + 1 := ⟨knots s - 1, by omega⟩
  show (n : Int) * ((knots s : Int) - 1) + (knots t : Int) - 1 = ((knots t - 1 + n * (knots s - 1) : Nat) : Int)
  rw [hk]
  have e1 : ((k + 1 : Nat) : Int) - 1 = (k : Int) := by omega
  have e2 : k + 1 - 1 = k := by omega
  rw [e1, e2, ← Int.natCast_mul]
  omega
theorem heads_last {t : Tt} {wy : List Nat} (hw : wy ∈ headsT t) : ∃ w1 i bs, wy = w1 ++ [i] ∧ subT t w1 = some (.mk bs) ∧ bs[i]? = some (.mk []) ∧ (w1 = [] → t = .mk bs) := by
  obtain ⟨r, hr⟩ := cut_of_head t wy hw 0
  obtain ⟨w1, i, bs, h1, h2, h3, h4⟩ := cut_last hr
  refine ⟨w1, i, bs, h1, h2, h3, fun e => ?_⟩
  rcases h4 with ⟨_, _, h⟩ | ⟨w0, j, _, h, _⟩
  · exact h
  · rw [h] at e; simp at e
def spCut (K : PySem.W.Frag) (A1 A2 A3 A4 : Addr) : Sp := fun vs H Q E => ∃ v way times, vs = [v, way, times] ∧ (
  (∃ t, TreeAt H v t ∧ okT t ∧ (
    (∃ b wy, way = .ref b ∧ H b = some (.lst (mI wy)) ∧ wy ∈ headsT t ∧ (
      (∃ n : Nat, times = .int (n : Nat) ∧ Bits (n : Int) 2200000 ∧ ((∃ r, Cut t wy n r ∧ knots r ≤ 300 ∧ ∀ H' x, New H H' x (told r) → Q x H') ∨ (300 < sizeT t wy n ∧ ∀ H', Same H H' → E (.ref A4) none H')))
      ∨ (NoTimes H times ∧ ∀ H', Same H H' → E (.ref A3) none H')))
    ∨ (WayB K H t way true ∧ ∀ H', Same H H' → E (.ref A2) none H')))
  ∨ (Bad H v ∧ ∀ H', Same H H' → E (.ref A1) none H'))
theorem ok_cut (T : Txt K mg) : FnOk P w K mg base (L2N.CX P w) 44 T.a_cut T.d_cut ["tree", "way", "times"] (spCut K T.A_BadTree T.A_BadWay T.A_BadTimes T.A_TooGreat) := by
  have G_asked_tree := ok_asked_tree (P := P) (w := w) (base := base) T
  have G_heads_of := ok_heads_of (P := P) (w := w) (base := base) T 41
  have G_is_number := ok_is_number (P := P) (w := w) (base := base) T
  have G_knots := ok_knots (P := P) (w := w) (base := base) T 41
  have G_knot_at := ok_knot_at (P := P) (w := w) (base := base) T
  have G_asked_great := ok_asked_great (P := P) (w := w) (base := base) T
  have G_told_of := ok_told_of (P := P) (w := w) (base := base) T 41
  have G_cut_of := ok_cut_of (P := P) (w := w) (base := base) T
  refine okN T.F_cut sc_cut (fun vs H Q E h => ?_) (fun cdv A outer s H vs Q E hr h => ?_)
  · obtain ⟨v, way, times, rfl, _⟩ := h; rfl
  obtain ⟨v, way, times, rfl, h⟩ := h
  have R_asked_tree : Room 43 _ := hr
  have R_heads_of : Room 41 _ := hr.mono (by omega)
  have R_is_number : Room 1 _ := hr.mono (by omega)
  have R_knots : Room 41 _ := hr.mono (by omega)
  have R_knot_at : Room 1 _ := hr.mono (by omega)
  have R_asked_great : Room 42 _ := hr.mono (by omega)
  have R_told_of : Room 43 _ := hr.mono (by omega)
  have R_cut_of : Room 42 _ := hr.mono (by omega)
  have hu65 := units65 hr
  refine ⟨_, (pss_cons (ps_expr (pe_call G_asked_tree R_asked_tree rfl T.m_asked_tree T.k_asked_tree T.b_asked_tree .nil (L2N.passes_call (L2N.takes_of rfl rfl rfl rfl) (fun _ _ _ _ h => h)) (pa_cons (pv 0) pa_nil)))
      (pss_cons (ps_if (PW.pt (pw_or (pt_not (pt_val (pe_callB (r := rIsi K) call_isi (by rfl) T.z_isinstance (by decide +kernel) (pa_cons (pv 1) (pa_cons (pe_bltn (v := .ty "list") (u := .type "list") (by rfl) T.z_list (by decide +kernel) rfl) pa_nil))))) (pw_or (pt_cmpR (r := rNotInD K) (op_notInD hu65) (pv 1) (pe_call G_heads_of R_heads_of rfl T.m_heads_of T.k_heads_of T.b_heads_of .nil pass0 (pa_cons (pv 0) pa_nil)) (by rfl)) (pw_or1 (pt_not (pt_val (pe_callB (r := rAll K) (cr_all rfl) (by rfl) T.z_all (by decide +kernel) (pa_cons (pe_lc (own := [("at", 3)]) (g := gName 3) (tt := tYes) rfl sc_cut.nd (pi_list (pv 1)) (blkOk_by (own := [("at", 3)]) (N := ["tree", "way", "times", "at"]) (sc := defScope s_cut) (by decide +kernel)) (fun _ _ _ _ _ => (pg_name (i := 3) sc_cut.nd rfl (Or.inl rfl))) (fun _ _ _ _ _ => pts_nil) (fun _ _ _ _ _ => (pe_call G_is_number R_is_number rfl T.m_is_number T.k_is_number T.b_is_number .nil pass0 (pa_cons (pv 3) pa_nil)))) pa_nil)))))))) (pss_one (L2N.ps_raise rfl (L2N.takes_of rfl rfl rfl rfl) (L2N.pmk_own PySem.F.excBase_ValueError T.x_BadWay T.g_BadWay T.k_BadWay (raises_own T.sb_BadWay T.tt_BadWay) (by exact rfl)))) pss_nil)
      (pss_cons (ps_if (PW.pt (pw_or (pt_not (pt_val (pe_call G_is_number R_is_number rfl T.m_is_number T.k_is_number T.b_is_number .nil pass0 (pa_cons (pv 2) pa_nil)))) (pw_or1 (pt_cmpR op_lt (pv 2) pe_int (nomark _))))) (pss_one (L2N.ps_raise rfl (L2N.takes_of rfl rfl rfl rfl) (L2N.pmk_own PySem.F.excBase_ValueError T.x_BadTimes T.g_BadTimes T.k_BadTimes (raises_own T.sb_BadTimes T.tt_BadTimes) (by exact rfl)))) pss_nil)
      (pss_cons (ps_if (PW.pt (pw_and (pt_cmpR op_gt (pe_callB (r := rLenS K) call_len_seqK rfl T.z_len PySem.boot_len (pa_cons (pv 1) pa_nil)) pe_int (nomark _)) (pw_and1 (pt_cmpR op_gt (pe_op op_sub (pe_op op_add (pe_op op_mulX (pv 2) (pe_op op_sub (pe_call G_knots R_knots rfl T.m_knots T.k_knots T.b_knots .nil pass0 (pa_cons (pe_call G_knot_at R_knot_at rfl T.m_knot_at T.k_knot_at T.b_knot_at .nil pass0 (pa_cons (pv 0) (pa_cons (pe_slice (r := rSlL K) sl_list (pv 1) po_none (po_some (pe_un un_neg pe_int))) pa_nil))) pa_nil)) pe_int)) (pe_call G_knots R_knots rfl T.m_knots T.k_knots T.b_knots .nil pass0 (pa_cons (pv 0) pa_nil))) pe_int) (pe_glob (v := .int 300) rfl T.c_MOST ⟨_, rfl⟩) (nomark _))))) (pss_one (L2N.ps_raise rfl (L2N.takes_of rfl rfl rfl rfl) (L2N.pmk_own PySem.F.excBase_ValueError T.x_TooGreat T.g_TooGreat T.k_TooGreat (raises_own T.sb_TooGreat T.tt_TooGreat) (by exact rfl)))) pss_nil)
      (pss_one (ps_ret (pe_call G_asked_great R_asked_great rfl T.m_asked_great T.k_asked_great T.b_asked_great .nil (L2N.passes_call (L2N.takes_of rfl rfl rfl rfl) (fun _ _ _ _ h => h)) (pa_cons (pe_call G_told_of R_told_of rfl T.m_told_of T.k_told_of T.b_told_of .nil pass0 (pa_cons (pe_call G_cut_of R_cut_of rfl T.m_cut_of T.k_cut_of T.b_cut_of .nil pass0 (pa_cons (pv 0) (pa_cons (pv 1) (pa_cons (pv 2) pa_nil)))) pa_nil)) pa_nil)))))))), ?_⟩
  rcases h with ⟨t, ht, ho, h⟩ | ⟨hb, q⟩
  case inr => exact ⟨_, rfl, v, rfl, .inr ⟨hb, q⟩⟩
  refine ⟨_, rfl, v, rfl, .inl ⟨t, ht, ho, fun H1 s1 => ?_⟩⟩
  obtain ⟨c, hc, hh⟩ : ∃ c, WayB K H t way c ∧ ((c = false ∧ ∃ b wy, way = .ref b ∧ H b = some (.lst (mI wy)) ∧ wy ∈ headsT t ∧ (
      (∃ n : Nat, times = .int (n : Nat) ∧ Bits (n : Int) 2200000 ∧ ((∃ r, Cut t wy n r ∧ knots r ≤ 300 ∧ ∀ H' x, New H H' x (told r) → Q x H') ∨ (300 < sizeT t wy n ∧ ∀ H', Same H H' → E (.ref T.A_TooGreat) none H')))
      ∨ (NoTimes H times ∧ ∀ H', Same H H' → E (.ref T.A_BadTimes) none H'))) ∨ (c = true ∧ ∀ H', Same H H' → E (.ref T.A_BadWay) none H')) := by
    rcases h with ⟨b, wy, e, hb, hw, g⟩ | ⟨hw, q⟩
    · exact ⟨false, by rw [e]; exact wayB_good hb hw ho.2, .inl ⟨rfl, b, wy, e, hb, hw, g⟩⟩
    · exact ⟨true, hw, .inr ⟨rfl, q⟩⟩
  clear h
  dsimp only
  show tOr _ _ _ _ _
  refine cut_t (fun b H' => Same H H' ∧ b = c) (fun Q' hQ' => ?_) ?_
  · rcases hc.same s1 with ⟨hl, rfl⟩ | ⟨b, xs, d, bs, rfl, hb, hd, sd, hx, hbl, hnum, hce⟩
    · obtain ⟨ty, h1, h2⟩ := Leaf.isi (K := K) hl
      exact ⟨_, rfl, _, _, ty, _, false, rfl, ClsV.ty _, h1, h2, _, rfl, iteT (hQ' _ _ ⟨s1, rfl⟩)⟩
    · obtain ⟨h1, h2⟩ := list_isi (K := K) hb
      refine ⟨_, rfl, _, _, _, _, true, rfl, ClsV.ty _, h1, h2, _, rfl, iteF ?_⟩
      refine ⟨_, rfl, _, rfl, v, t, rfl, TreeAt.same s1 _ ht, Nat.le_trans ho.1 (by decide), ho.dp, ho.2, fun H2 D rs nw => ?_⟩
      refine ⟨_, _, dp_same nw.1 hd, .lst (SqL.of nw.2.2.1) nw.2.2.2.1.dp, sd, waysShaped _, _, rfl, ?_⟩
      cases hany : ((waysD (wsI (headsT t))).any fun z => PyData.eqv z d) with
      | false => exact iteT (hQ' _ _ ⟨s1.trans nw.1, by rw [hce, hany]; rfl⟩)
      | true =>
        refine iteF ?_
        refine ⟨_, rfl, b, rfl, ⟨_, SqL.of (nw.1 _ _ hb)⟩, fun D2 nD2 => ?_⟩
        refine lc_it (walk_list (xs := xs)) (fun i H' => Fill H2 H' D2 ((bs.take i).map V.bl)) (Fill.start nD2) (fun i H' _ g => SqL.of (g.1 _ _ (nw.1 _ _ hb))) ?_ ?_
        · rintro i x H3 H4 hi g ⟨rfl, hxi⟩
          obtain ⟨y, hy, hn⟩ := hnum i x hxi
          refine ⟨rfl, _, rfl, x, y, rfl, (hn.same (nw.1.trans g.1)).num, ?_⟩
          obtain ⟨k1, k2⟩ := g.more (v := .bl y) (Same.refl _)
          refine ⟨_, k1, ?_, ?_⟩
          · rw [List.length_map, List.length_take]
            exact Nat.lt_of_le_of_lt (m := 1000) (by omega) (by decide)
          · rw [take_more hy, List.map_append]; exact k2
        · intro H3 g
          rw [← hbl, List.take_length] at g
          refine ⟨D2, bs, rfl, SqL.of g.2.2, _, rfl, hQ' _ _ ⟨s1.trans (nw.1.trans g.1), by rw [hce, hany]; rfl⟩⟩
  rintro c' H2 ⟨s2, rfl⟩
  rcases hh with ⟨rfl, b, wy, rfl, hb, hw, h⟩ | ⟨rfl, q⟩
  case inr => exact iteT (q _ s2)
  refine iteF ?_
  clear hc
  have hb2 := s2 _ _ hb
  -- times
  show Ends.nx _ _ _
  dsimp only
  show tOr _ _ _ _ _
  refine cut_t (fun c H' => H' = H2 ∧ ((c = false ∧ ∃ n : Nat, times = .int (n : Nat) ∧ Bits (n : Int) 2200000 ∧ ((∃ r, Cut t wy n r ∧ knots r ≤ 300 ∧ ∀ H' x, New H H' x (told r) → Q x H') ∨ (300 < sizeT t wy n ∧ ∀ H', Same H H' → E (.ref T.A_TooGreat) none H'))) ∨ (c = true ∧ ∀ H', Same H H' → E (.ref T.A_BadTimes) none H'))) (fun Q' hQ' => ?_) ?_
  · rcases h with ⟨n, rfl, bn, h⟩ | ⟨hn | ⟨z, rfl, hz⟩, q⟩
    · refine ⟨_, rfl, _, true, rfl, .int _, _, rfl, iteF ?_⟩
      refine ⟨_, rfl, _, _, rfl, rfl, _, rfl, hQ' _ _ ⟨rfl, .inl ⟨decide_eq_false (by omega), n, rfl, bn, h⟩⟩⟩
    · exact ⟨_, rfl, _, false, rfl, (hn.same s2).num, _, rfl, iteT (hQ' _ _ ⟨rfl, .inr ⟨rfl, q⟩⟩)⟩
    · refine ⟨_, rfl, _, true, rfl, .int _, _, rfl, iteF ?_⟩
      refine ⟨_, rfl, _, _, rfl, rfl, _, rfl, hQ' _ _ ⟨rfl, .inr ⟨decide_eq_true hz, q⟩⟩⟩
  clear h
  rintro c' H2' ⟨rfl, ⟨rfl, n, rfl, bn, h⟩ | ⟨rfl, q⟩⟩
  case inr => exact iteT (q _ s2)
  refine iteF ?_
  obtain ⟨w1, i, bs, rfl, hs, hi, hroot⟩ := heads_last hw
  have kt := ho.1
  show Ends.nx _ _ _
  dsimp only
  show tAnd _ _ _ _ _
  refine cut_t (fun c H' => Same H H' ∧ c = decide (300 < sizeT t (w1 ++ [i]) n)) (fun Q' hQ' => ?_) ?_
  · refine ⟨_, rfl, b, _, rfl, .inl (SqL.of hb2), _, _, rfl, rfl, _, rfl, ite2 (fun c => ?_) (fun c => ?_)⟩
    · have c' : (1 : Int) < (((mI (w1 ++ [i])).length : Nat) : Int) := of_decide_eq_true c
      rw [mI_len] at c'
      refine ⟨_, rfl, _, rfl, _, rfl, _, rfl, _, rfl, b, _, rfl, SqL.of hb2, fun p np => ?_⟩
      have e1 : cutV (mI (w1 ++ [i])) none (some (-1)) = mI w1 := by rw [mI_app]; exact cutV_m1 _ _
      have sp := same_new np (.lst (cutV (mI (w1 ++ [i])) none (some (-1))))
      have up : upd H2' p (.lst (cutV (mI (w1 ++ [i])) none (some (-1)))) p = some (.lst (mI w1)) := by rw [upd_same, e1]
      generalize upd H2' p (.lst (cutV (mI (w1 ++ [i])) none (some (-1)))) = H3 at sp up ⊢
      have t3 := TreeAt.same (s2.trans sp) _ ht
      obtain ⟨u, wu, tu⟩ := t3.walk hs
      have kbs := sub_knots hs
      have dbs := sub_depth hs
      have os : okT (.mk bs) := ⟨by omega, by have := ho.2; omega⟩
      refine ⟨v, p, w1, u, rfl, SqL.of up, wu, ?_⟩
      refine ⟨u, _, rfl, tu, os.fit, os.dp, fun H4 s4 => ?_⟩
      refine ⟨_, _, rfl, rfl, ?_⟩
      have bk : Bits ((knots (.mk bs) : Int) - 1) 10 := Bits.lt (n := 1024) (by have := depth_knots1 (.mk bs); omega) (by omega) (by decide)
      refine ⟨_, _, rfl, rfl, bn.mulX bk (by decide), ?_⟩
      refine ⟨_, rfl, v, t, rfl, TreeAt.same s4 _ t3, ho.fit, ho.dp, fun H5 s5 => ?_⟩
      refine ⟨_, _, rfl, rfl, _, _, rfl, rfl, _, _, rfl, rfl, _, rfl, hQ' _ _ ⟨s2.trans (sp.trans (s4.trans s5)), ?_⟩⟩
      have e2 := size_int (t := t) (n := n) (wy := w1 ++ [i]) (by rw [List.dropLast_concat]; exact hs) (by omega)
      rw [e2]
      exact decide_eq_decide.mpr (by omega)
    · have c' : ¬ (1 : Int) < (((mI (w1 ++ [i])).length : Nat) : Int) := of_decide_eq_false (Bool.eq_false_iff.mpr c)
      rw [mI_len] at c'
      refine hQ' _ _ ⟨s2, ?_⟩
      unfold sizeT
      rw [if_neg (by omega)]
      exact (decide_eq_false (by omega)).symm
  rintro c' H3 ⟨s3, rfl⟩
  rcases h with ⟨r, hr, hk, q⟩ | ⟨hz, q⟩
  case inr =>
    rw [decide_eq_true hz]
    exact iteT (q _ s3)
  have ez := cut_size hr
  rw [decide_eq_false (by omega)]
  refine iteF ?_
  have dr := cut_depth hr
  have orr : okT r := ⟨hk, Nat.le_trans dr ho.2⟩
  refine ⟨_, rfl, _, rfl, _, rfl, v, b, t, _, n, r, rfl, TreeAt.same s3 _ ht, ho, s3 _ _ hb, hr, hk, fun H4 x n4 => ?_⟩
  refine ⟨x, r, rfl, n4.at_, orr.fit, orr.dp, fun H5 y n5 => ?_⟩
  have o2 := okT_told orr
  refine ⟨y, _, rfl, n5.at_, o2.fit, o2.2, fun _ H6 s6 => q _ _ ((n5.of (s3.trans n4.1)).step s6), fun z => ?_⟩
  have := o2.1
  omega
end
/-! ### numbers written by a base: plain -/
def digsW (W : Nat → Tt) (b n : Nat) : Nat → List Tt
  | 0 => []
  | p + 1 => List.replicate (n / b ^ p % b) (W p) ++ digsW W b n p
def WT : Nat → Nat → Nat → Tt
  | 0, _, _ => .mk []
  | f + 1, b, n => .mk (digsW (WT f b) b n n)
def writtenT (b n : Nat) : Tt := WT n b n
theorem pow_gt {b : Nat} (hb : 2 ≤ b) (p : Nat) : p < b ^ p := Nat.lt_of_lt_of_le Nat.lt_two_pow_self (Nat.pow_le_pow_left hb p)
theorem digit_lt {b n q : Nat} (hb : 2 ≤ b) (h : n / b ^ q % b ≠ 0) : q < n ∧ b ^ q ≤ n := by
  have h1 : n / b ^ q ≠ 0 := fun e => h (by rw [e, Nat.zero_mod])
  have h2 : b ^ q ≤ n := by
    by_cases c : n < b ^ q
    · exact absurd (Nat.div_eq_of_lt c) h1
    · omega
  have := pow_gt hb q
  exact ⟨by omega, h2⟩
theorem digsW_congr {W W' : Nat → Tt} {b n : Nat} : ∀ {p : Nat}, (∀ q, q < p → n / b ^ q % b ≠ 0 → W q = W' q) → digsW W b n p = digsW W' b n p
  | 0, _ => rfl
  | p + 1, h => by
    unfold digsW
    rw [digsW_congr fun q hq => h q (by omega)]
    by_cases c : n / b ^ p % b = 0
    · rw [c, List.replicate_zero, List.replicate_zero]
    · rw [h p (by omega) c]
theorem WT_eq {b : Nat} (hb : 2 ≤ b) : ∀ (n f g : Nat), n ≤ f → n ≤ g → WT f b n = WT g b n := by
  intro n
  induction n using Nat.strongRecOn with
  | ind n ih =>
    intro f g hf hg
    cases f with
    | zero =>
      have e : n = 0 := by omega
      subst e
      cases g with
      | zero => rfl
      | succ g => rfl
    | succ f =>
      cases g with
      | zero =>
        have e : n = 0 := by omega
        subst e
        rfl
      | succ g =>
        refine congrArg Tt.mk (digsW_congr fun q hq c => ?_)
        exact ih q (digit_lt hb c).1 f g (by omega) (by omega)
theorem writtenT_eq {b : Nat} (hb : 2 ≤ b) (n : Nat) : writtenT b n = .mk (digsW (writtenT b) b n n) := by
  have e : writtenT b n = WT (n + 1) b n := WT_eq hb n _ _ (Nat.le_refl _) (by omega)
  rw [e]
  refine congrArg Tt.mk (digsW_congr fun q hq c => ?_)
  exact WT_eq hb q _ _ (by omega) (Nat.le_refl _)
theorem digsW_end {W : Nat → Tt} {b n p : Nat} (h : n / b ^ p = 0) (hb : 2 ≤ b) : ∀ k, digsW W b n (p + k) = digsW W b n p
  | 0 => rfl
  | k + 1 => by
    show List.replicate (n / b ^ (p + k) % b) (W (p + k)) ++ digsW W b n (p + k) = _
    rw [digsW_end h hb k]
    have e : n / b ^ (p + k) = 0 := by rw [Nat.pow_add, ← Nat.div_div_eq_div_mul, h, Nat.zero_div]
    rw [e, Nat.zero_mod, List.replicate_zero, List.nil_append]
theorem digsW_whole {W : Nat → Tt} {b n p : Nat} (h : n / b ^ p = 0) (hb : 2 ≤ b) : digsW W b n p = digsW W b n n := by
  have h2 : n / b ^ n = 0 := Nat.div_eq_of_lt (pow_gt hb n)
  by_cases c : p ≤ n
  · have := digsW_end (W := W) h hb (n - p)
    rw [show p + (n - p) = n by omega] at this
    exact this.symm
  · have := digsW_end (W := W) h2 hb (p - n)
    rw [show n + (p - n) = p by omega] at this
    exact this
theorem digsW_mono {W : Nat → Tt} {b n : Nat} : ∀ {p k : Nat}, p ≤ k → knotsL (digsW W b n p) ≤ knotsL (digsW W b n k)
  | p, 0, h => by
    have e : p = 0 := by omega
    rw [e]; exact Nat.le_refl _
  | p, k + 1, h => by
    by_cases c : p = k + 1
    · rw [c]; exact Nat.le_refl _
    · have := digsW_mono (W := W) (b := b) (n := n) (p := p) (k := k) (by omega)
      show _ ≤ knotsL (List.replicate (n / b ^ k % b) (W k) ++ digsW W b n k)
      rw [knotsL_append]
      omega
/-- towers of twos -/
def tw : Nat → Nat
  | 0 => 0
  | k + 1 => 2 ^ tw k
theorem tw_exp {b n p k : Nat} (hb : 2 ≤ b) (h : n < tw (k + 1)) (hp : b ^ p ≤ n) : p < tw k := by
  have h1 : 2 ^ p ≤ n := Nat.le_trans (Nat.pow_le_pow_left hb p) hp
  have h2 : 2 ^ p < 2 ^ tw k := Nat.lt_of_le_of_lt h1 h
  exact (Nat.pow_lt_pow_iff_right (by decide)).mp h2
theorem mem_digsW {W : Nat → Tt} {b n : Nat} {x : Tt} : ∀ {p : Nat}, x ∈ digsW W b n p → ∃ q, q < p ∧ n / b ^ q % b ≠ 0 ∧ x = W q
  | 0, h => by cases h
  | p + 1, h => by
    rcases List.mem_append.mp h with h | h
    · have h1 := List.mem_replicate.mp h
      exact ⟨p, by omega, h1.1, h1.2⟩
    · obtain ⟨q, h1, h2⟩ := mem_digsW h
      exact ⟨q, by omega, h2⟩
theorem written_depth {b : Nat} (hb : 2 ≤ b) : ∀ (k n : Nat), n < tw k → depth (writtenT b n) < k
  | 0, n, h => absurd h (Nat.not_lt_zero _)
  | k + 1, n, h => by
    rw [writtenT_eq hb, depth]
    refine Nat.lt_succ_of_le (depthL_iff.mpr fun x hx => ?_)
    obtain ⟨q, _, h2, rfl⟩ := mem_digsW hx
    exact written_depth hb k q (tw_exp hb h (digit_lt hb h2).2)
/-! ### a heap without one place -/
def hid (l : Addr) (H : Hp) : Hp := fun b => if b = l then none else H b
theorem hid_ne {l b : Addr} {H : Hp} (h : b ≠ l) : hid l H b = H b := if_neg h
theorem hid_self {l : Addr} {H : Hp} : hid l H l = none := if_pos rfl
theorem hid_upd {l D : Addr} {H : Hp} {o : HO} (h : D ≠ l) : hid l (upd H D o) = upd (hid l H) D o := by
  funext b
  by_cases c : b = l
  · subst c
    rw [hid_self, upd_ne (Ne.symm h), hid_self]
  · rw [hid_ne c]
    by_cases d : b = D
    · subst d; rw [upd_same, upd_same]
    · rw [upd_ne d, upd_ne d, hid_ne c]
theorem hid_upd_self {l : Addr} {H : Hp} {o : HO} : hid l (upd H l o) = hid l H := by
  funext b
  by_cases c : b = l
  · subst c; rw [hid_self, hid_self]
  · rw [hid_ne c, hid_ne c, upd_ne c]
theorem hid_kept {l : Addr} {H H' : Hp} (s : Same (hid l H) (hid l H')) : Kept l H H' := fun b o n e => by
  have h : hid l H b = some o := by rw [hid_ne n]; exact e
  have h2 := s _ _ h
  rw [hid_ne n] at h2; exact h2
theorem hid_same {l : Addr} {H H' : Hp} (s : Same H H') : Same (hid l H) (hid l H') := fun b o e => by
  by_cases c : b = l
  · subst c; rw [hid_self] at e; cases e
  · rw [hid_ne c] at e ⊢; exact s _ _ e
theorem hid_of {l b : Addr} {H : Hp} {o : HO} (e : hid l H b = some o) : H b = some o := by
  by_cases c : b = l
  · subst c; rw [hid_self] at e; cases e
  · rw [hid_ne c] at e; exact e
theorem hid_free {l b : Addr} {H : Hp} (h : H b = none) : hid l H b = none := by
  by_cases c : b = l
  · subst c; exact hid_self
  · rw [hid_ne c]; exact h
/-- new trees ahead of a new tree's branches, in a new list -/
theorem New.cat {H H2 H3 : Hp} {f D : Addr} {ts us : List Tt} (nw : New H H2 (.ref f) (.mk ts)) (g : Grow H2 H3 D us) : ∃ acc fv, H3 D = some (.lst acc) ∧ H3 f = some (.lst fv) ∧ acc.length = us.length ∧ fv.length = ts.length ∧
    ∀ G, H3 G = none → New H (upd H3 G (.lst (acc ++ fv))) (.ref G) (.mk (us ++ ts)) := by
  obtain ⟨s23, _, acc, as, hD, ow, nd, fr⟩ := g
  obtain ⟨s12, as2, ow2, nd2, fr2⟩ := nw
  rw [own_mk] at ow2
  obtain ⟨f', fv, as3, ef, rfl, hf, ow3⟩ := ow2
  cases ef
  have tr3 := Owns.tracked _ ow3
  have ow3' := Owns.frame ts ow3 fun a _ u e => s23 _ _ e
  refine ⟨acc, fv, hD, s23 _ _ hf, ow.len, ow3.len, fun G nG => ⟨fun b u e => by rw [upd_ne (ne_of_none (s23 _ _ (s12 _ _ e)) nG)]; exact s23 _ _ (s12 _ _ e), G :: (as ++ as3), ?_, ?_, ?_⟩⟩
  · rw [own_mk]
    refine ⟨G, acc ++ fv, as ++ as3, rfl, rfl, upd_same, ?_⟩
    have keep : ∀ a u, H3 a = some u → upd H3 G (.lst (acc ++ fv)) a = some u := fun a u e => by rw [upd_ne (ne_of_none e nG)]; exact e
    exact Owns.append (Owns.frame us ow fun a _ u e => keep a u e) (Owns.frame ts ow3' fun a _ u e => keep a u e)
  · refine List.nodup_cons.mpr ⟨fun h => ?_, List.nodup_append.mpr ⟨(List.nodup_cons.mp nd).2, (List.nodup_cons.mp nd2).2, fun a ha b hb e => ?_⟩⟩
    · rcases List.mem_append.mp h with h | h
      · obtain ⟨xs, e⟩ := Owns.tracked _ ow G h
        rw [nG] at e; cases e
      · obtain ⟨xs, e⟩ := Owns.tracked _ ow3' G h
        rw [nG] at e; cases e
    · obtain ⟨xs, q⟩ := tr3 b hb
      rw [← e, fr a ha] at q; cases q
  · intro a ha
    rcases List.mem_cons.mp ha with e | ha
    · rw [e]; exact s12.free (s23.free nG)
    · rcases List.mem_append.mp ha with ha | ha
      · exact s12.free (fr a ha)
      · exact fr2 a (List.mem_cons_of_mem _ ha)
/-- a new place was hid: it needn't be -/
theorem New.unhid {l : Addr} {H H1 H' : Hp} {v : V} {t : Tt} (n : New (hid l H1) (hid l H') v t) (nl : H l = none) (s : Same H H1) : New H H' v t := by
  obtain ⟨s1, as, o, nd, fr⟩ := n
  refine ⟨fun b u e => hid_kept s1 b u (ne_of_none e nl) (s _ _ e), as, Own.frame t o fun a _ u e => hid_of e, nd, fun a ha => ?_⟩
  by_cases c : a = l
  · rw [c]; exact nl
  · have := fr a ha
    rw [hid_ne c] at this
    exact s.free this
section
variable {P : Program} {w : World} {K : PySem.W.Frag} {mg : Str → Option Value} {base : Heap}
/-! ### asked_base -/
def NoBase (H : Hp) (v : V) : Prop := NoNum H v ∨ ∃ i : Int, v = .int i ∧ i < 2
def spAskedBase (A : Addr) : Sp := fun vs H Q E => ∃ v, vs = [v] ∧ ((∃ b : Nat, v = .int (b : Nat) ∧ 2 ≤ b ∧ Q .non H) ∨ (NoBase H v ∧ E (.ref A) none H))
theorem ok_asked_base (T : Txt K mg) : FnOk P w K mg base (L2N.CX P w) 2 T.a_asked_base T.d_asked_base ["base"] (spAskedBase T.A_BadBase) := by
  have G_is_number := ok_is_number (P := P) (w := w) (base := base) T
  refine okN T.F_asked_base sc_asked_base (fun vs H Q E h => ?_) (fun cdv A outer s H vs Q E hr h => ?_)
  · obtain ⟨v, rfl, _⟩ := h; rfl
  obtain ⟨v, rfl, h⟩ := h
  have R_is_number : Room 1 _ := hr
  refine ⟨_, (pss_one (ps_if (PW.pt (pw_or (pt_not (pt_val (pe_call G_is_number R_is_number rfl T.m_is_number T.k_is_number T.b_is_number .nil pass0 (pa_cons (pv 0) pa_nil)))) (pw_or1 (pt_cmpR op_lt (pv 0) pe_int (nomark _))))) (pss_one (L2N.ps_raise rfl (L2N.takes_of rfl rfl rfl rfl) (L2N.pmk_own PySem.F.excBase_ValueError T.x_BadBase T.g_BadBase T.k_BadBase (raises_own T.sb_BadBase T.tt_BadBase) (by exact rfl)))) pss_nil)), ?_⟩
  rcases h with ⟨b, rfl, hb, q⟩ | ⟨hn | ⟨i, rfl, hi⟩, q⟩
  · refine ⟨_, rfl, _, true, rfl, .int _, _, rfl, iteF ?_⟩
    refine ⟨_, rfl, _, _, rfl, rfl, _, rfl, ?_⟩
    rw [decide_eq_false (show ¬ (b : Int) < 2 by omega)]
    exact iteF q
  · exact ⟨_, rfl, _, false, rfl, hn.num, _, rfl, iteT (iteT q)⟩
  · refine ⟨_, rfl, _, true, rfl, .int _, _, rfl, iteF ?_⟩
    refine ⟨_, rfl, _, _, rfl, rfl, _, rfl, ?_⟩
    rw [decide_eq_true (show i < 2 from hi)]
    exact iteT q
/-! ### written_of -/
def TooBig (L b n : Nat) : Prop := 0 < n ∧ L < n % b
def spWrittenOf (A : Addr) (k : Nat) : Sp := fun vs H Q E => ∃ (n b L : Nat) (l : Addr), vs = [.int (n : Nat), .int (b : Nat), .ref l] ∧ 2 ≤ b ∧ Bits (b : Int) 1000 ∧ n < tw k ∧ L ≤ 1000 ∧ H l = some (.lst [.int (L : Nat)]) ∧
  ((knotsL (digsW (writtenT b) b n n) ≤ L ∧ ∀ H' r, New (hid l H) (hid l H') r (writtenT b n) → H' l = some (.lst [.int ((L - knotsL (digsW (writtenT b) b n n) : Nat) : Int)]) → Q r H') ∨ (TooBig L b n ∧ ∀ H', Kept l H H' → E (.ref A) none H'))
theorem ok_written_of (T : Txt K mg) : ∀ k, FnOk P w K mg base (L2N.CX P w) k T.a_written_of T.d_written_of ["number", "base", "left"] (spWrittenOf T.A_TooGreat k)
  | 0 => none_left fun vs H Q E ⟨n, b, L, l, _, _, _, h, _⟩ => absurd h (Nat.not_lt_zero _)
  | k + 1 => by
    have G_written_of := ok_written_of T k
    refine okN T.F_written_of sc_written_of (fun vs H Q E h => ?_) (fun cdv A outer s H vs Q E hr h => ?_)
    · obtain ⟨n, b, L, l, rfl, _⟩ := h; rfl
    obtain ⟨n, b, L, l, rfl, hb2, hbb, hn, hL, hl, h⟩ := h
    have R_written_of : Room k _ := hr
    refine ⟨_, (pss_cons (ps_set (i := 3) sc_written_of.nd rfl (Or.inl rfl) (pe_lst pa_nil))
      (pss_cons (ps_set (i := 4) sc_written_of.nd rfl (Or.inr rfl) pe_int)
      (pss_cons (ps_while (passes_of rfl) (pt_cmpR op_gt (pv 0) pe_int (nomark _)) (pss_cons (ps_set (i := 5) sc_written_of.nd rfl (Or.inl rfl) (pe_op op_mod (pv 0) (pv 1)))
        (pss_cons (ps_asg (pe_op op_sub (pe_ix (r := rIxL K) ix_list (pv 2) pe_int (fun _ _ => rfl)) (pv 5)) (pg_sub (pv 2) pe_int set_list))
        (pss_cons (ps_if (pt_cmpR op_lt (pe_ix (r := rIxL K) ix_list (pv 2) pe_int (fun _ _ => rfl)) pe_int (nomark _)) (pss_one (L2N.ps_raise rfl (L2N.takes_of rfl rfl rfl rfl) (L2N.pmk_own PySem.F.excBase_ValueError T.x_TooGreat T.g_TooGreat T.k_TooGreat (raises_own T.sb_TooGreat T.tt_TooGreat) (by exact rfl)))) pss_nil)
        (pss_cons (ps_set (i := 3) sc_written_of.nd rfl (Or.inl rfl) (pe_op op_cat (pe_lc (own := [("time", 6)]) (g := gName 6) (tt := tYes) rfl sc_written_of.nd (pi_range1 (by rfl) T.z_range (pa_cons (pv 5) pa_nil)) (blkOk_by (own := [("time", 6)]) (N := ["number", "base", "left", "found", "power", "many", "time"]) (sc := defScope s_written_of) (by decide +kernel)) (fun _ _ _ _ _ => (pg_name (i := 6) sc_written_of.nd rfl (Or.inl rfl))) (fun _ _ _ _ _ => pts_nil) (fun _ _ _ _ _ => (pe_call G_written_of R_written_of rfl T.m_written_of T.k_written_of T.b_written_of .nil passLN (pa_cons (pv 4) (pa_cons (pv 1) (pa_cons (pv 2) pa_nil)))))) (pv 3)))
        (pss_cons (ps_set (i := 0) sc_written_of.nd rfl (Or.inl rfl) (pe_op op_fdivW (pv 0) (pv 1)))
        (pss_one (ps_set (i := 4) sc_written_of.nd rfl (Or.inr rfl) (pe_op op_add (pv 4) pe_int)))))))))
      (pss_one (ps_ret (pv 3)))))), ?_⟩
    have hbpos : (0 : Int) < (b : Int) := by omega
    refine ⟨(by show 0 ≤ sizeLine; decide), fun F nF => ?_⟩
    have nFl : F ≠ l := fun e => by rw [e, hl] at nF; cases nF
    have hl0 : upd H F (.lst []) l = some (.lst [.int (L : Nat)]) := by rw [upd_ne (Ne.symm nFl)]; exact hl
    have n0 : New (hid l H) (hid l (upd H F (.lst []))) (.ref F) (.mk []) := by
      rw [hid_upd nFl]
      exact (Grow.start (hid_free nF)).done
    have d0 : digsW (writtenT b) b n 0 = [] := rfl
    have e0 : n / b ^ 0 = n := by rw [Nat.pow_zero, Nat.div_one]
    generalize upd H F (.lst []) = H0 at hl0 n0 ⊢
    rcases h with ⟨hfit, q⟩ | ⟨⟨hn0, hmany⟩, q⟩
    · refine ⟨fun m σ H' => ∃ (p : Nat) (f : Addr) (o5 : Option V), σ = [some (.int ((n / b ^ p : Nat) : Int)), some (.int (b : Nat)), some (.ref l), some (.ref f), some (.int (p : Nat)), o5, none] ∧ m = n / b ^ p ∧
        New (hid l H) (hid l H') (.ref f) (.mk (digsW (writtenT b) b n p)) ∧ knotsL (digsW (writtenT b) b n p) ≤ L ∧ H' l = some (.lst [.int ((L - knotsL (digsW (writtenT b) b n p) : Nat) : Int)]), ?_, ?_⟩
      · refine ⟨n, 0, F, none, by rw [e0]; rfl, by rw [e0], n0, by rw [d0, knotsL]; omega, ?_⟩
        rw [d0, knotsL]; exact hl0
      rintro m σ H1 ⟨p, f, o5, rfl, rfl, nw, hk, hl1⟩
      refine ⟨_, rfl, _, _, rfl, rfl, _, rfl, ite2 (fun c => ?_) (fun c => ?_)⟩
      · have c' : (0 : Int) < ((n / b ^ p : Nat) : Int) := of_decide_eq_true c
        have hpos : 0 < n / b ^ p := by omega
        have hbp : b ^ p ≤ n := by
          by_cases z : n < b ^ p
          · rw [Nat.div_eq_of_lt z] at hpos; omega
          · omega
        have hpn : p < n := by have := pow_gt hb2 p; omega
        have hpk := tw_exp hb2 hn hbp
        have hwhole : knotsL (digsW (writtenT b) b n (p + 1)) ≤ L := Nat.le_trans (digsW_mono (by omega)) hfit
        have hstep : knotsL (digsW (writtenT b) b n (p + 1)) = (n / b ^ p % b) * knots (writtenT b p) + knotsL (digsW (writtenT b) b n p) := by
          show knotsL (List.replicate (n / b ^ p % b) (writtenT b p) ++ digsW (writtenT b) b n p) = _
          rw [knotsL_append, knotsL_rep]
        have kp := depth_knots1 (writtenT b p)
        have kdig : knots (writtenT b p) = 1 + knotsL (digsW (writtenT b) b p p) := by rw [writtenT_eq hb2, knots]
        generalize hmm : n / b ^ p % b = many at hstep
        have hmk : many ≤ many * knots (writtenT b p) := Nat.le_mul_of_pos_right _ kp
        have em : ((n / b ^ p : Nat) : Int) % (b : Int) = (many : Int) := by rw [← hmm]; exact (Int.natCast_emod _ _).symm
        refine ⟨fun σ' H' => ∃ (f : Addr), σ' = [some (.int ((n / b ^ (p + 1) : Nat) : Int)), some (.int (b : Nat)), some (.ref l), some (.ref f), some (.int ((p + 1 : Nat) : Int)), some (.int (many : Nat)), none] ∧
          New (hid l H) (hid l H') (.ref f) (.mk (digsW (writtenT b) b n (p + 1))) ∧ H' l = some (.lst [.int ((L - knotsL (digsW (writtenT b) b n (p + 1)) : Nat) : Int)]), fun σ' H' ⟨f', e, nw', hl'⟩ => ⟨n / b ^ (p + 1), ?_, p + 1, f', _, e, rfl, nw', hwhole, hl'⟩, ?_⟩
        · rw [Nat.pow_succ, ← Nat.div_div_eq_div_mul]
          exact Nat.div_lt_self hpos hb2
        refine ⟨_, rfl, _, rfl, _, _, rfl, rfl, hbpos, ?_⟩
        show tSeq _ _ _ [_, _, _, _, _, some (V.int (((n / b ^ p : Nat) : Int) % (b : Int))), _] _
        rw [em]
        refine ⟨_, rfl, l, _, 0, _, rfl, rfl, SqL.of hl1, rfl, _, rfl, _, _, rfl, rfl, _, rfl, l, _, 0, 0, rfl, rfl, hl1, rfl, ?_⟩
        have e1 : ((L - knotsL (digsW (writtenT b) b n p) : Nat) : Int) - (many : Int) = ((L - knotsL (digsW (writtenT b) b n p) - many : Nat) : Int) := by omega
        have h2 : Same (hid l H1) (hid l (upd H1 l (.lst ([V.int ((L - knotsL (digsW (writtenT b) b n p) : Nat) : Int)].set 0 (.int (((L - knotsL (digsW (writtenT b) b n p) : Nat) : Int) - (many : Int))))))) := by rw [hid_upd_self]; exact Same.refl _
        have hl2 : upd H1 l (.lst ([V.int ((L - knotsL (digsW (writtenT b) b n p) : Nat) : Int)].set 0 (.int (((L - knotsL (digsW (writtenT b) b n p) : Nat) : Int) - (many : Int))))) l = some (.lst [.int ((L - knotsL (digsW (writtenT b) b n p) - many : Nat) : Int)]) := by rw [upd_same, e1]; rfl
        generalize upd H1 l (.lst ([V.int ((L - knotsL (digsW (writtenT b) b n p) : Nat) : Int)].set 0 (.int (((L - knotsL (digsW (writtenT b) b n p) : Nat) : Int) - (many : Int))))) = H2 at h2 hl2 ⊢
        have nw2 := nw.step h2
        refine ⟨_, rfl, l, _, 0, _, rfl, rfl, SqL.of hl2, rfl, _, _, rfl, rfl, _, rfl, ?_⟩
        rw [decide_eq_false (show ¬ (((L - knotsL (digsW (writtenT b) b n p) - many : Nat) : Int) < 0) by omega)]
        refine iteF ?_
        refine ⟨_, rfl, _, rfl, by omega, by omega, fun D nD => ?_⟩
        rw [Int.toNat_natCast]
        have nDl : D ≠ l := fun e => by rw [e, hl2] at nD; cases nD
        have hl3 : upd H2 D (.lst []) l = some (.lst [.int ((L - knotsL (digsW (writtenT b) b n p) - many : Nat) : Int)]) := by rw [upd_ne (Ne.symm nDl)]; exact hl2
        refine lc_it walk_range (fun i H' => Grow (hid l H2) (hid l H') D (List.replicate i (writtenT b p)) ∧ ∃ L' : Nat, H' l = some (.lst [.int (L' : Nat)]) ∧ L' + i * (knots (writtenT b p) - 1) = L - knotsL (digsW (writtenT b) b n p) - many) ?_ (fun _ _ _ _ => trivial) ?_ ?_
        · refine ⟨by rw [hid_upd nDl]; exact Grow.start (hid_free nD), _, hl3, by omega⟩
        · rintro i z H3 H4 hi ⟨g, L', hlx, eL⟩ ⟨rfl, rfl⟩
          have hmul : i * (knots (writtenT b p) - 1) + (knots (writtenT b p) - 1) ≤ many * (knots (writtenT b p) - 1) := by
            rw [← Nat.succ_mul]; exact Nat.mul_le_mul_right _ hi
          have hmul2 : many * knots (writtenT b p) = many * (knots (writtenT b p) - 1) + many := by
            have : knots (writtenT b p) = (knots (writtenT b p) - 1) + 1 := by omega
            rw [this, Nat.mul_succ, Nat.add_sub_cancel]
          refine ⟨rfl, _, rfl, _, rfl, _, rfl, p, b, L', l, rfl, hb2, hbb, hpk, by omega, hlx, .inl ⟨by omega, fun H5 r5 n5 hl5 => ?_⟩⟩
          obtain ⟨acc, h1, h2', h3⟩ := g.more n5
          refine ⟨acc, hid_of h1, ?_, ?_, L' - knotsL (digsW (writtenT b) b p p), ?_, ?_⟩
          · rw [h2', List.length_replicate]
            exact Nat.lt_of_le_of_lt (m := 1000) (by omega) (by decide)
          · rw [hid_upd nDl, List.replicate_succ']; exact h3
          · rw [upd_ne (Ne.symm nDl)]; exact hl5
          · rw [Nat.succ_mul]; omega
        · rintro H3 ⟨g, L', hlx, eL⟩
          have kl := knotsL_len (digsW (writtenT b) b n p)
          have eb : ((n / b ^ p : Nat) : Int) / (b : Int) = ((n / b ^ (p + 1) : Nat) : Int) := by rw [Nat.pow_succ, ← Nat.div_div_eq_div_mul]; exact (Int.natCast_ediv _ _).symm
          obtain ⟨acc, fv, hD, hf, la, lf, cat⟩ := nw2.cat g
          rw [List.length_replicate] at la
          refine ⟨_, rfl, D, f, acc, fv, rfl, rfl, hid_of hD, hid_of hf, Nat.le_trans (show acc.length + fv.length ≤ 3000 by omega) (by decide), fun G nG => ?_⟩
          have nGl : G ≠ l := fun e => by rw [e, hlx] at nG; cases nG
          have hl4 : upd H3 G (.lst (acc ++ fv)) l = some (.lst [.int (L' : Nat)]) := by rw [upd_ne (Ne.symm nGl)]; exact hlx
          have nw4 : New (hid l H) (hid l (upd H3 G (.lst (acc ++ fv)))) (.ref G) (.mk (digsW (writtenT b) b n (p + 1))) := by
            rw [hid_upd nGl]
            have := cat G (hid_free nG)
            show New _ _ _ (.mk (List.replicate (n / b ^ p % b) (writtenT b p) ++ digsW (writtenT b) b n p))
            rw [hmm]; exact this
          refine ⟨_, rfl, _, rfl, _, _, rfl, rfl, wide_div (b := 1000) hbpos hbb (by decide) (by decide), ?_⟩
          refine ⟨_, rfl, _, _, rfl, rfl, G, ?_, nw4, ?_⟩
          · show [some (V.int (((n / b ^ p : Nat) : Int) / (b : Int))), _, _, _, some (V.int ((p : Int) + 1)), _, _] = _
            rw [eb]; rfl
          · have hmul2 : many * knots (writtenT b p) = many * (knots (writtenT b p) - 1) + many := by
              have : knots (writtenT b p) = (knots (writtenT b p) - 1) + 1 := by omega
              rw [this, Nat.mul_succ, Nat.add_sub_cancel]
            have e5 : L' = L - knotsL (digsW (writtenT b) b n (p + 1)) := by omega
            rw [hl4, e5]
      · have c' : ¬ (0 : Int) < ((n / b ^ p : Nat) : Int) := of_decide_eq_false (Bool.eq_false_iff.mpr c)
        have hz : n / b ^ p = 0 := Nat.eq_zero_of_not_pos fun z => c' (Int.ofNat_lt.mpr z)
        rw [digsW_whole hz hb2] at nw hl1
        refine ⟨_, rfl, q _ _ ?_ hl1⟩
        rw [writtenT_eq hb2]; exact nw
    · refine ⟨fun m σ H' => σ = [some (.int (n : Nat)), some (.int (b : Nat)), some (.ref l), some (.ref F), some (.int 0), none, none] ∧ H' = H0, ⟨0, rfl, rfl⟩, ?_⟩
      rintro m σ H1 ⟨rfl, rfl⟩
      refine ⟨_, rfl, _, _, rfl, rfl, _, rfl, ?_⟩
      rw [decide_eq_true (show (0 : Int) < (n : Int) by omega)]
      refine iteT ⟨fun _ _ => False, fun _ _ z => z.elim, ?_⟩
      refine ⟨_, rfl, _, rfl, _, _, rfl, rfl, hbpos, ?_⟩
      have em : (n : Int) % (b : Int) = ((n % b : Nat) : Int) := (Int.natCast_emod _ _).symm
      show tSeq _ _ _ [_, _, _, _, _, some (V.int ((n : Int) % (b : Int))), _] _
      rw [em]
      refine ⟨_, rfl, l, _, 0, _, rfl, rfl, SqL.of hl0, rfl, _, rfl, _, _, rfl, rfl, _, rfl, l, _, 0, 0, rfl, rfl, hl0, rfl, ?_⟩
      have k2 : Kept l H (upd H1 l (.lst ([V.int (L : Nat)].set 0 (.int ((L : Int) - ((n % b : Nat) : Int)))))) := hid_kept (by rw [hid_upd_self]; exact n0.1)
      have hl2 : upd H1 l (.lst ([V.int (L : Nat)].set 0 (.int ((L : Int) - ((n % b : Nat) : Int))))) l = some (.lst [.int ((L : Int) - ((n % b : Nat) : Int))]) := by rw [upd_same]; rfl
      generalize upd H1 l (.lst ([V.int (L : Nat)].set 0 (.int ((L : Int) - ((n % b : Nat) : Int))))) = H2 at k2 hl2 ⊢
      refine ⟨_, rfl, l, _, 0, _, rfl, rfl, SqL.of hl2, rfl, _, _, rfl, rfl, _, rfl, ?_⟩
      rw [decide_eq_true (show (L : Int) - ((n % b : Nat) : Int) < 0 by omega)]
      exact iteT (q _ k2)
end
/-! ### values: plain -/
def GR : Nat := 2 ^ 400
def okRow (b : Nat) (l : List Tt) : Bool := (List.range l.length).all fun i => !(decide (b ≤ i + 1) && decide (l[i + 1 - b]? = l[i]?))
mutual
def cw (b : Nat) : Tt → Bool
  | .mk l => okRow b l && cwL b l
def cwL (b : Nat) : List Tt → Bool
  | [] => true
  | x :: l => cw b x && cwL b l
end
theorem cw_mk (b : Nat) (l : List Tt) : cw b (.mk l) = (okRow b l && cwL b l) := by rw [cw]
theorem cwL_all (b : Nat) : ∀ l, cwL b l = (l.map (cw b)).all id
  | [] => by rw [cwL]; rfl
  | x :: l => by rw [cwL, cwL_all b l, List.map_cons, List.all_cons]; rfl
theorem okRow_false {b i : Nat} {l : List Tt} (hi : i < l.length) (hb : b ≤ i + 1) (e : l[i + 1 - b]? = l[i]?) : okRow b l = false := by
  unfold okRow
  rw [List.all_eq_false]
  refine ⟨i, List.mem_range.mpr hi, ?_⟩
  rw [decide_eq_true hb, decide_eq_true e]
  decide
theorem okRow_true {b : Nat} {l : List Tt} (h : ∀ i, i < l.length → b ≤ i + 1 → l[i + 1 - b]? ≠ l[i]?) : okRow b l = true := by
  unfold okRow
  rw [List.all_eq_true]
  intro i hi
  have hi' := List.mem_range.mp hi
  by_cases c : b ≤ i + 1
  · rw [decide_eq_false (h i hi' c), Bool.and_false]; rfl
  · rw [decide_eq_false c]; rfl
def powc (b : Nat) : Nat → Nat
  | 0 => 1
  | k + 1 => min (powc b k * b) GR
mutual
def val (b : Nat) : Tt → Nat
  | .mk l => valL b 0 l
def valL (b : Nat) (acc : Nat) : List Tt → Nat
  | [] => acc
  | x :: l => valL b (min (acc + powc b (min (val b x) 401)) GR) l
end
theorem val_mk (b : Nat) (l : List Tt) : val b (.mk l) = valL b 0 l := by rw [val]
theorem valL_nil (b acc : Nat) : valL b acc [] = acc := by rw [valL]
theorem valL_cons (b acc : Nat) (x : Tt) (l : List Tt) : valL b acc (x :: l) = valL b (min (acc + powc b (min (val b x) 401)) GR) l := by rw [valL]
theorem valL_snoc (b : Nat) (x : Tt) : ∀ (l : List Tt) (acc : Nat), valL b acc (l ++ [x]) = min (valL b acc l + powc b (min (val b x) 401)) GR
  | [], acc => by rw [List.nil_append, valL_cons, valL_nil, valL_nil]
  | y :: l, acc => by rw [List.cons_append, valL_cons, valL_snoc b x l, valL_cons]
theorem valL_le (b : Nat) : ∀ (l : List Tt) (acc : Nat), acc ≤ GR → valL b acc l ≤ GR
  | [], acc, h => by rw [valL_nil]; exact h
  | y :: l, acc, h => by rw [valL_cons]; exact valL_le b l _ (Nat.min_le_right _ _)
theorem GR_pos : 1 ≤ GR := by decide +kernel
theorem powc_le (b : Nat) : ∀ k, powc b k ≤ GR
  | 0 => GR_pos
  | k + 1 => Nat.min_le_right _ _
theorem val_le (b : Nat) (t : Tt) : val b t ≤ GR := by
  cases t with
  | mk l => rw [val_mk]; exact valL_le b l 0 (Nat.zero_le _)
theorem min_int (i j : Nat) : (if (j : Int) < (i : Int) then (j : Int) else (i : Int)) = ((min i j : Nat) : Int) := by
  by_cases h : j < i
  · rw [if_pos (by omega)]; omega
  · rw [if_neg (by omega)]; omega
theorem GR_int : (2582249878086908589655919172003011874329705792829223512830659356540647622016841194629645353280137831435903171972747493376 : Int) = ((GR : Nat) : Int) := by decide +kernel
theorem GR_bits : Bits ((GR : Nat) : Int) 401 := by
  show ((GR : Nat) : Int).natAbs < 2 ^ 401
  decide +kernel
def NoNumber (H : Hp) (v : V) : Prop := NoNum H v ∨ ∃ i : Int, v = .int i ∧ (i < 0 ∨ (GR : Int) ≤ i)
section
variable {P : Program} {w : World} {K : PySem.W.Frag} {mg : Str → Option Value} {base : Heap}
/-! ### written -/
theorem NoBase.same {H H' : Hp} {v : V} (s : Same H H') (h : NoBase H v) : NoBase H' v := h.imp (fun k => k.same s) id
def spWritten (A1 A2 A3 : Addr) : Sp := fun vs H Q E => ∃ vn vb, vs = [vn, vb] ∧ (
  (∃ n : Nat, vn = .int (n : Nat) ∧ n < GR ∧ (
    (∃ b : Nat, vb = .int (b : Nat) ∧ 2 ≤ b ∧ Bits (b : Int) 1000 ∧ ((knots (writtenT b n) ≤ 300 ∧ ∀ H' r, New H H' r (writtenT b n) → Q r H') ∨ (TooBig 299 b n ∧ ∀ H', Same H H' → E (.ref A3) none H')))
    ∨ (NoBase H vb ∧ E (.ref A2) none H)))
  ∨ (NoNumber H vn ∧ E (.ref A1) none H))
theorem tw6 {n : Nat} (h : n < GR) : n < tw 6 := by
  have h1 : GR ≤ 2 ^ 65536 := Nat.pow_le_pow_right (by decide) (by decide)
  have h2 : tw 6 = 2 ^ tw 5 := rfl
  have h3 : tw 5 = 65536 := by decide +kernel
  rw [h2, h3]
  omega
theorem ok_written (T : Txt K mg) : FnOk P w K mg base (L2N.CX P w) 7 T.a_written T.d_written ["number", "base"] (spWritten T.A_BadNumber T.A_BadBase T.A_TooGreat) := by
  have G_is_number := ok_is_number (P := P) (w := w) (base := base) T
  have G_asked_base := ok_asked_base (P := P) (w := w) (base := base) T
  have G_written_of := ok_written_of (P := P) (w := w) (base := base) T 6
  refine okN T.F_written sc_written (fun vs H Q E h => ?_) (fun cdv A outer s H vs Q E hr h => ?_)
  · obtain ⟨vn, vb, rfl, _⟩ := h; rfl
  obtain ⟨vn, vb, rfl, h⟩ := h
  have R_is_number : Room 1 _ := hr.mono (by omega)
  have R_asked_base : Room 2 _ := hr.mono (by omega)
  have R_written_of : Room 6 _ := hr
  refine ⟨_, (pss_cons (ps_if (PW.pt (pw_or (pt_not (pt_val (pe_call G_is_number R_is_number rfl T.m_is_number T.k_is_number T.b_is_number .nil pass0 (pa_cons (pv 0) pa_nil)))) (pw_or1 (pt_not (pt_chain op_le op_lt pe_int (pv 0) (pe_glob (v := .int 2582249878086908589655919172003011874329705792829223512830659356540647622016841194629645353280137831435903171972747493376) rfl T.c_GREATEST ⟨_, rfl⟩)))))) (pss_one (L2N.ps_raise rfl (L2N.takes_of rfl rfl rfl rfl) (L2N.pmk_own PySem.F.excBase_ValueError T.x_BadNumber T.g_BadNumber T.k_BadNumber (raises_own T.sb_BadNumber T.tt_BadNumber) (by exact rfl)))) pss_nil)
      (pss_cons (ps_expr (pe_call G_asked_base R_asked_base rfl T.m_asked_base T.k_asked_base T.b_asked_base .nil (L2N.passes_call (L2N.takes_of rfl rfl rfl rfl) (fun _ _ _ _ h => h)) (pa_cons (pv 1) pa_nil)))
      (pss_one (ps_ret (pe_call G_written_of R_written_of rfl T.m_written_of T.k_written_of T.b_written_of .nil (L2N.passes_call (L2N.takes_of rfl rfl rfl rfl) (fun _ _ _ _ h => h)) (pa_cons (pv 0) (pa_cons (pv 1) (pa_cons (pe_lst (pa_cons (pe_op op_sub (pe_glob (v := .int 300) rfl T.c_MOST ⟨_, rfl⟩) pe_int) pa_nil)) pa_nil)))))))), ?_⟩
  rcases h with ⟨n, rfl, hn, h⟩ | ⟨hn | ⟨i, rfl, hi⟩, q⟩
  · refine ⟨_, rfl, _, true, rfl, .int _, _, rfl, iteF ?_⟩
    refine ⟨_, rfl, _, _, rfl, rfl, _, rfl, ?_⟩
    rw [decide_eq_true (show (0 : Int) ≤ (n : Int) by omega)]
    refine iteT ⟨_, _, rfl, rfl, _, rfl, ?_⟩
    rw [decide_eq_true (show (n : Int) < 2582249878086908589655919172003011874329705792829223512830659356540647622016841194629645353280137831435903171972747493376 by rw [GR_int]; omega)]
    refine iteF ?_
    rcases h with ⟨b, rfl, hb, bb, h⟩ | ⟨hb, q⟩
    · refine ⟨_, rfl, _, rfl, .inl ⟨b, rfl, hb, ?_⟩⟩
      refine ⟨_, rfl, _, rfl, _, _, rfl, rfl, (by show 1 ≤ sizeLine; decide), fun l nl => ?_⟩
      have hl : upd H l (.lst [V.int 299]) l = some (.lst [.int ((299 : Nat) : Int)]) := upd_same
      have sl := same_new nl (.lst [V.int 299])
      refine ⟨n, b, 299, l, rfl, hb, bb, tw6 hn, by decide, hl, ?_⟩
      rcases h with ⟨hk, q⟩ | ⟨hk, q⟩
      · refine .inl ⟨?_, fun H' r nw _ => q _ _ (nw.unhid nl sl)⟩
        rw [writtenT_eq hb, knots] at hk
        omega
      · exact .inr ⟨hk, fun H' k => q _ (k.same sl nl)⟩
    · exact ⟨_, rfl, _, rfl, .inr ⟨hb, q⟩⟩
  · exact ⟨_, rfl, _, false, rfl, hn.num, _, rfl, iteT (iteT q)⟩
  · refine ⟨_, rfl, _, true, rfl, .int _, _, rfl, iteF ?_⟩
    refine ⟨_, rfl, _, _, rfl, rfl, _, rfl, ?_⟩
    rcases hi with hi | hi
    · rw [decide_eq_false (show ¬ (0 : Int) ≤ i by omega)]
      exact iteF ⟨_, rfl, iteT q⟩
    · have g0 : (0 : Int) ≤ ((GR : Nat) : Int) := Int.natCast_nonneg _
      rw [decide_eq_true (show (0 : Int) ≤ i by omega)]
      refine iteT ⟨_, _, rfl, rfl, _, rfl, ?_⟩
      rw [decide_eq_false (show ¬ i < 2582249878086908589655919172003011874329705792829223512830659356540647622016841194629645353280137831435903171972747493376 by rw [GR_int]; omega)]
      exact iteT q
/-! ### can_write -/
def spCanWrite (n : Nat) : Sp := fun vs H Q _ => ∃ (v : V) (b : Nat) (t : Tt), vs = [v, .int (b : Nat)] ∧ TreeAt H v t ∧ fit t ∧ depth t < n ∧ depth t ≤ 60 ∧ 1 ≤ b ∧ ∀ H', Same H H' → Q (.bl (cw b t)) H'
theorem ok_can_write (T : Txt K mg) : ∀ n, FnOk P w K mg base CX0 n T.a_can_write T.d_can_write ["tree", "base"] (spCanWrite n)
  | 0 => none_left fun vs H Q E ⟨v, b, t, _, _, _, h, _⟩ => absurd h (Nat.not_lt_zero _)
  | n + 1 => by
    have G_can_write := ok_can_write T n
    refine T.F_can_write.ok sc_can_write (fun vs H Q E h => ?_) (fun cdv A outer s H vs Q E hr h => ?_)
    · obtain ⟨v, b, t, rfl, _⟩ := h; rfl
    obtain ⟨v, b, ⟨bs⟩, rfl, ht, hf, hd, hd60, hb1, q⟩ := h
    have R_can_write : Room n _ := hr
    have hu64 := hr.units
    rw [treeAt_mk] at ht
    obtain ⟨a, xs, rfl, ha, hbs⟩ := ht
    have hbl := hbs.len
    have flen := fit_len hf
    refine ⟨_, (pss_cons (ps_for PassesOwn.never rfl (pi_enum (by rfl) T.z_enumerate (pa_cons (pv 0) pa_nil)) (pg_tup rfl (pgs_cons (pg_name (i := 2) sc_can_write.nd rfl (Or.inl rfl)) (pgs_cons (pg_name (i := 3) sc_can_write.nd rfl (Or.inl rfl)) pgs_nil))) (pss_one (ps_if (PW.pt (pw_and (pt_cmpR op_ge (pe_op op_add (pv 2) pe_int) (pv 1) (nomark _)) (pw_and1 (pt_cmpR (r := rEqD K) (op_eqD hu64) (pe_ix (r := rIxL K) ix_list (pv 0) (pe_op op_sub (pe_op op_add (pv 2) pe_int) (pv 1)) (fun _ _ => rfl)) (pv 3) (nomark _))))) (pss_one (ps_ret pe_bl)) pss_nil)))
      (pss_one (ps_ret (pe_callB (r := rAll K) (cr_all rfl) (by rfl) T.z_all (by decide +kernel) (pa_cons (pe_lc (own := [("branch", 3)]) (g := gName 3) (tt := tYes) rfl sc_can_write.nd (pi_list (pv 0)) (blkOk_by (own := [("branch", 3)]) (N := ["tree", "base", "at", "branch"]) (sc := defScope s_can_write) (by decide +kernel)) (fun _ _ _ _ _ => (pg_name (i := 3) sc_can_write.nd rfl (Or.inl rfl))) (fun _ _ _ _ _ => pts_nil) (fun _ _ _ _ _ => (pe_call G_can_write R_can_write rfl T.m_can_write T.k_can_write T.b_can_write .nil pass0 (pa_cons (pv 3) (pa_cons (pv 1) pa_nil))))) pa_nil))))), ?_⟩
    refine ⟨_, rfl, a, _, rfl, SqL.of ha, ?_⟩
    refine for_it (walk_enum (xs := xs)) (fun i σ H' => Same H H' ∧ (∃ o2 o3, σ = [some (.ref a), some (.int (b : Nat)), o2, o3]) ∧ ∀ j, j < i → b ≤ j + 1 → bs[j + 1 - b]? ≠ bs[j]?) ⟨Same.refl _, ⟨none, none, rfl⟩, fun j hj => absurd hj (Nat.not_lt_zero _)⟩ (fun i σ H' _ p => SqL.of (p.1 _ _ ha)) ?_ ?_
    · rintro i x σ H1 H2 hi ⟨s1, ⟨o2, o3, rfl⟩, hno⟩ ⟨Tp, x1, y1, rfl, nT, rfl, hx, hy⟩
      cases hx
      obtain ⟨y, hby, hyt⟩ := hbs.get hy
      have hi2 : i < bs.length := by omega
      have sT := same_new nT (.tup [.int (i : Nat), y1])
      have uT : upd H1 Tp (.tup [.int (i : Nat), y1]) Tp = some (.tup [.int (i : Nat), y1]) := upd_same
      generalize upd H1 Tp (.tup [.int (i : Nat), y1]) = H3 at sT uT ⊢
      have s3 := s1.trans sT
      refine ⟨Tp, _, rfl, SqT.of uT, rfl, _, _, rfl, _, _, rfl, rfl, ?_⟩
      refine ⟨_, rfl, _, _, rfl, rfl, _, rfl, _, _, rfl, rfl, _, rfl, ite2 (fun c => ?_) (fun c => ?_)⟩
      · have c' : (b : Int) ≤ (i : Int) + 1 := of_decide_eq_true c
        have hk : i + 1 - b < bs.length := by omega
        obtain ⟨z, hz, hzt⟩ := hbs.get' (List.getElem?_eq_getElem hk)
        have ei : (i : Int) + 1 - (b : Int) = ((i + 1 - b : Nat) : Int) := by omega
        have gz := atI_nat hz
        rw [← ei] at gz
        have md := List.getElem_mem hk
        have my := List.mem_of_getElem? hby
        have d1 := depthL_le md
        have d2 := depthL_le my
        rw [depth] at hd60
        refine ⟨_, rfl, _, rfl, _, _, rfl, rfl, _, rfl, _, _, rfl, rfl, a, xs, _, z, rfl, rfl, SqL.of (s3 _ _ ha), gz, _, rfl, ?_⟩
        refine eq_trees (TreeAt.same s3 _ hzt) (TreeAt.same s3 _ hyt) (by omega) (by omega) ⟨_, rfl, ite2 (fun c2 => ?_) (fun c2 => ?_)⟩
        · have e2 : bs[i + 1 - b] = y := of_decide_eq_true c2
          have e : cw b (.mk bs) = false := by
            rw [cw_mk, okRow_false hi2 (by omega) (by rw [List.getElem?_eq_getElem hk, hby, e2]), Bool.false_and]
          have := q _ s3
          rw [e] at this
          exact this
        · have e2 : bs[i + 1 - b] ≠ y := of_decide_eq_false (Bool.eq_false_iff.mpr c2)
          refine ⟨s3, ⟨_, _, rfl⟩, fun j hj hbj => ?_⟩
          by_cases ej : j = i
          · subst ej
            rw [List.getElem?_eq_getElem hk, hby]
            exact fun e => e2 (Option.some.inj e)
          · exact hno j (by omega) hbj
      · have c' : ¬ (b : Int) ≤ (i : Int) + 1 := of_decide_eq_false (Bool.eq_false_iff.mpr c)
        refine iteF ⟨s3, ⟨_, _, rfl⟩, fun j hj hbj => ?_⟩
        by_cases ej : j = i
        · omega
        · exact hno j (by omega) hbj
    rintro σ H1 ⟨s1, ⟨o2, o3, rfl⟩, hno⟩
    rw [hbl] at hno
    refine ⟨_, rfl, a, rfl, ⟨xs, SqL.of (s1 _ _ ha)⟩, fun D nD => ?_⟩
    refine lc_it (walk_list (xs := xs)) (fun i H' => Fill H1 H' D (((bs.take i).map (cw b)).map V.bl)) (Fill.start nD) (fun i H' _ g => SqL.of (g.1 _ _ (s1 _ _ ha))) ?_ ?_
    · rintro i x H3 H4 hi g ⟨rfl, hx⟩
      obtain ⟨y, hy, hyt⟩ := hbs.get hx
      have my := List.mem_of_getElem? hy
      have d2 := depthL_le my
      rw [depth] at hd60
      refine ⟨rfl, _, rfl, _, rfl, x, b, y, rfl, TreeAt.same (s1.trans g.1) _ hyt, fit_bs hf my, depth_bs hd my, by omega, hb1, fun H5 s5 => ?_⟩
      obtain ⟨k1, k2⟩ := g.more (v := .bl (cw b y)) s5
      refine ⟨_, k1, ?_, ?_⟩
      · rw [List.length_map, List.length_map, List.length_take]
        exact lim_line (by omega)
      · rw [take_more hy, List.map_append, List.map_append]; exact k2
    · intro H3 g
      rw [hbl, List.take_length] at g
      refine ⟨D, _, rfl, SqL.of g.2.2, ?_⟩
      have e : cw b (.mk bs) = (bs.map (cw b)).all id := by rw [cw_mk, okRow_true hno, Bool.true_and, cwL_all]
      rw [← e]
      exact q _ (s1.trans g.1)
/-! ### value_of -/
def spValueOf (n : Nat) : Sp := fun vs H Q _ => ∃ (v : V) (b : Nat) (t : Tt), vs = [v, .int (b : Nat)] ∧ TreeAt H v t ∧ depth t < n ∧ Bits (b : Int) 1001 ∧ ∀ H', Same H H' → Q (.int ((val b t : Nat) : Int)) H'
theorem ok_value_of (T : Txt K mg) : ∀ n, FnOk P w K mg base CX0 n T.a_value_of T.d_value_of ["tree", "base"] (spValueOf n)
  | 0 => none_left fun vs H Q E ⟨v, b, t, _, _, h, _⟩ => absurd h (Nat.not_lt_zero _)
  | n + 1 => by
    have G_value_of := ok_value_of T n
    refine T.F_value_of.ok sc_value_of (fun vs H Q E h => ?_) (fun cdv A outer s H vs Q E hr h => ?_)
    · obtain ⟨v, b, t, rfl, _⟩ := h; rfl
    obtain ⟨v, b, ⟨bs⟩, rfl, ht, hd, hbb, q⟩ := h
    have R_value_of : Room n _ := hr
    rw [treeAt_mk] at ht
    obtain ⟨a, xs, rfl, ha, hbs⟩ := ht
    have hbl := hbs.len
    refine ⟨_, (pss_cons (ps_set (i := 2) sc_value_of.nd rfl (Or.inl rfl) pe_int)
      (pss_cons (ps_for PassesOwn.never rfl (pi_list (pv 0)) (pg_name (i := 3) sc_value_of.nd rfl (Or.inl rfl)) (pss_cons (ps_set (i := 4) sc_value_of.nd rfl (Or.inl rfl) (pe_call G_value_of R_value_of rfl T.m_value_of T.k_value_of T.b_value_of .nil pass0 (pa_cons (pv 3) (pa_cons (pv 1) pa_nil))))
        (pss_cons (ps_set (i := 5) sc_value_of.nd rfl (Or.inl rfl) pe_int)
        (pss_cons (ps_for PassesOwn.never rfl (pi_range1 (by rfl) T.z_range (pa_cons (pe_callB (call_min2 rfl) (by rfl) T.z_min (by decide +kernel) (pa_cons (pv 4) (pa_cons pe_int pa_nil))) pa_nil)) (pg_name (i := 6) sc_value_of.nd rfl (Or.inl rfl)) (pss_one (ps_set (i := 5) sc_value_of.nd rfl (Or.inl rfl) (pe_callB (call_min2 rfl) (by rfl) T.z_min (by decide +kernel) (pa_cons (pe_op op_mulX (pv 5) (pv 1)) (pa_cons (pe_glob (v := .int 2582249878086908589655919172003011874329705792829223512830659356540647622016841194629645353280137831435903171972747493376) rfl T.c_GREATEST ⟨_, rfl⟩) pa_nil))))))
        (pss_one (ps_set (i := 2) sc_value_of.nd rfl (Or.inl rfl) (pe_callB (call_min2 rfl) (by rfl) T.z_min (by decide +kernel) (pa_cons (pe_op op_add (pv 2) (pv 5)) (pa_cons (pe_glob (v := .int 2582249878086908589655919172003011874329705792829223512830659356540647622016841194629645353280137831435903171972747493376) rfl T.c_GREATEST ⟨_, rfl⟩) pa_nil)))))))))
      (pss_one (ps_ret (pv 2))))), ?_⟩
    refine ⟨_, rfl, a, rfl, ⟨_, SqL.of ha⟩, ?_⟩
    refine for_it (walk_list (xs := xs)) (fun i σ H' => Same H H' ∧ ∃ o3 o4 o5 o6, σ = [some (.ref a), some (.int (b : Nat)), some (.int ((valL b 0 (bs.take i) : Nat) : Int)), o3, o4, o5, o6]) ⟨Same.refl _, none, none, none, none, by rw [List.take_zero, valL_nil]; rfl⟩ (fun i σ H' _ p => SqL.of (p.1 _ _ ha)) ?_ ?_
    · rintro i x σ H1 H2 hi ⟨s1, o3, o4, o5, o6, rfl⟩ ⟨rfl, hx⟩
      obtain ⟨y, hy, hyt⟩ := hbs.get hx
      have my := List.mem_of_getElem? hy
      refine ⟨_, rfl, _, rfl, x, b, y, rfl, TreeAt.same s1 _ hyt, depth_bs hd my, hbb, fun H3 s3 => ?_⟩
      refine ⟨_, rfl, _, _, rfl, _, rfl, ?_⟩
      have e401 : (if (401 : Int) < ((val b y : Nat) : Int) then (401 : Int) else ((val b y : Nat) : Int)) = ((min (val b y) 401 : Nat) : Int) := min_int (val b y) 401
      rw [e401]
      refine ⟨by omega, by omega, ?_⟩
      rw [Int.toNat_natCast]
      refine for_range (fun k σ' H' => H' = H3 ∧ ∃ o6, σ' = [some (.ref a), some (.int (b : Nat)), some (.int ((valL b 0 (bs.take i) : Nat) : Int)), some x, some (.int ((val b y : Nat) : Int)), some (.int ((powc b k : Nat) : Int)), o6]) ⟨rfl, o6, rfl⟩ ?_ ?_
      · rintro k σ' H4 hk ⟨rfl, o6', rfl⟩
        have bp : Bits ((powc b k : Nat) : Int) 401 := GR_bits.le (by have := powc_le b k; omega)
        refine ⟨_, rfl, _, rfl, _, _, rfl, rfl, bp.mulX hbb (by decide), _, _, rfl, ?_⟩
        have e : (if (2582249878086908589655919172003011874329705792829223512830659356540647622016841194629645353280137831435903171972747493376 : Int) < ((powc b k : Nat) : Int) * (b : Int) then (2582249878086908589655919172003011874329705792829223512830659356540647622016841194629645353280137831435903171972747493376 : Int) else ((powc b k : Nat) : Int) * (b : Int)) = ((powc b (k + 1) : Nat) : Int) := by
          rw [GR_int, ← Int.natCast_mul]; exact min_int _ _
        refine ⟨rfl, some (.int (0 + (k : Int))), ?_⟩
        rw [e]; rfl
      · rintro σ' H4 ⟨rfl, o6', rfl⟩
        refine ⟨_, rfl, _, rfl, _, _, rfl, rfl, _, _, rfl, s1.trans s3, some x, some (.int ((val b y : Nat) : Int)), some (.int ((powc b (min (val b y) 401) : Nat) : Int)), o6', ?_⟩
        have e : (if (2582249878086908589655919172003011874329705792829223512830659356540647622016841194629645353280137831435903171972747493376 : Int) < ((valL b 0 (bs.take i) : Nat) : Int) + ((powc b (min (val b y) 401) : Nat) : Int) then (2582249878086908589655919172003011874329705792829223512830659356540647622016841194629645353280137831435903171972747493376 : Int) else ((valL b 0 (bs.take i) : Nat) : Int) + ((powc b (min (val b y) 401) : Nat) : Int)) = ((valL b 0 (bs.take (i + 1)) : Nat) : Int) := by
          rw [take_more hy, valL_snoc, GR_int, ← Int.natCast_add]; exact min_int _ _
        rw [e]; rfl
    · rintro σ H1 ⟨s1, o3, o4, o5, o6, rfl⟩
      rw [hbl, List.take_length, ← val_mk]
      exact ⟨_, rfl, q _ s1⟩
end
section
variable {P : Program} {w : World} {K : PySem.W.Frag} {mg : Str → Option Value} {base : Heap}
/-! ### number_of -/
def spNumberOf (A1 A2 A3 : Addr) : Sp := fun vs H Q E => ∃ v vb, vs = [v, vb] ∧ (
  (∃ t, TreeAt H v t ∧ okT t ∧ (
    (∃ b : Nat, vb = .int (b : Nat) ∧ 2 ≤ b ∧ Bits (b : Int) 1000 ∧ (
      (cw b (told t) = false ∧ ∀ H', Same H H' → E (.ref A2) none H')
      ∨ (cw b (told t) = true ∧ val b t < GR ∧ ∀ H', Same H H' → Q (.int ((val b t : Nat) : Int)) H')
      ∨ (cw b (told t) = true ∧ GR ≤ val b t ∧ ∀ H', Same H H' → E (.ref A3) none H')))
    ∨ (NoBase H vb ∧ ∀ H', Same H H' → E (.ref A2) none H')))
  ∨ (Bad H v ∧ ∀ H', Same H H' → E (.ref A1) none H'))
theorem ok_number_of (T : Txt K mg) : FnOk P w K mg base (L2N.CX P w) 44 T.a_number_of T.d_number_of ["tree", "base"] (spNumberOf T.A_BadTree T.A_BadBase T.A_TooGreat) := by
  have G_asked_tree := ok_asked_tree (P := P) (w := w) (base := base) T
  have G_asked_base := ok_asked_base (P := P) (w := w) (base := base) T
  have G_told_of := ok_told_of (P := P) (w := w) (base := base) T 41
  have G_can_write := ok_can_write (P := P) (w := w) (base := base) T 41
  have G_value_of := ok_value_of (P := P) (w := w) (base := base) T 41
  refine okN T.F_number_of sc_number_of (fun vs H Q E h => ?_) (fun cdv A outer s H vs Q E hr h => ?_)
  · obtain ⟨v, vb, rfl, _⟩ := h; rfl
  obtain ⟨v, vb, rfl, h⟩ := h
  have R_asked_tree : Room 43 _ := hr
  have R_asked_base : Room 2 _ := hr.mono (by omega)
  have R_told_of : Room 43 _ := hr
  have R_can_write : Room 41 _ := hr.mono (by omega)
  have R_value_of : Room 41 _ := hr.mono (by omega)
  refine ⟨_, (pss_cons (ps_expr (pe_call G_asked_tree R_asked_tree rfl T.m_asked_tree T.k_asked_tree T.b_asked_tree .nil (L2N.passes_call (L2N.takes_of rfl rfl rfl rfl) (fun _ _ _ _ h => h)) (pa_cons (pv 0) pa_nil)))
      (pss_cons (ps_expr (pe_call G_asked_base R_asked_base rfl T.m_asked_base T.k_asked_base T.b_asked_base .nil (L2N.passes_call (L2N.takes_of rfl rfl rfl rfl) (fun _ _ _ _ h => h)) (pa_cons (pv 1) pa_nil)))
      (pss_cons (ps_if (pt_not (pt_val (pe_call G_can_write R_can_write rfl T.m_can_write T.k_can_write T.b_can_write .nil pass0 (pa_cons (pe_call G_told_of R_told_of rfl T.m_told_of T.k_told_of T.b_told_of .nil pass0 (pa_cons (pv 0) pa_nil)) (pa_cons (pv 1) pa_nil))))) (pss_one (L2N.ps_raise rfl (L2N.takes_of rfl rfl rfl rfl) (L2N.pmk_own PySem.F.excBase_ValueError T.x_BadBase T.g_BadBase T.k_BadBase (raises_own T.sb_BadBase T.tt_BadBase) (by exact rfl)))) pss_nil)
      (pss_cons (ps_set (i := 2) sc_number_of.nd rfl (Or.inl rfl) (pe_call G_value_of R_value_of rfl T.m_value_of T.k_value_of T.b_value_of .nil pass0 (pa_cons (pv 0) (pa_cons (pv 1) pa_nil))))
      (pss_cons (ps_if (pt_cmpR op_ge (pv 2) (pe_glob (v := .int 2582249878086908589655919172003011874329705792829223512830659356540647622016841194629645353280137831435903171972747493376) rfl T.c_GREATEST ⟨_, rfl⟩) (nomark _)) (pss_one (L2N.ps_raise rfl (L2N.takes_of rfl rfl rfl rfl) (L2N.pmk_own PySem.F.excBase_ValueError T.x_TooGreat T.g_TooGreat T.k_TooGreat (raises_own T.sb_TooGreat T.tt_TooGreat) (by exact rfl)))) pss_nil)
      (pss_one (ps_ret (pv 2)))))))), ?_⟩
  rcases h with ⟨t, ht, ho, h⟩ | ⟨hb, q⟩
  case inr => exact ⟨_, rfl, v, rfl, .inr ⟨hb, q⟩⟩
  refine ⟨_, rfl, v, rfl, .inl ⟨t, ht, ho, fun H1 s1 => ?_⟩⟩
  rcases h with ⟨b, rfl, hb2, hbb, h⟩ | ⟨hb, q⟩
  case inr => exact ⟨_, rfl, _, rfl, .inr ⟨hb.same s1, q _ s1⟩⟩
  refine ⟨_, rfl, _, rfl, .inl ⟨b, rfl, hb2, ?_⟩⟩
  have o2 := okT_told ho
  refine ⟨_, rfl, v, t, rfl, TreeAt.same s1 _ ht, ho.fit, ho.dp, fun H2 r n2 => ?_⟩
  refine ⟨_, rfl, r, b, _, rfl, n2.at_, o2.fit, o2.dp, Nat.le_trans o2.2 (by decide), by omega, fun H3 s3 => ⟨_, rfl, ?_⟩⟩
  have s03 := s1.trans (n2.1.trans s3)
  rcases h with ⟨hc, q⟩ | ⟨hc, hv, q⟩ | ⟨hc, hv, q⟩
  · rw [hc]
    exact iteT (q _ s03)
  · rw [hc]
    refine iteF ?_
    refine ⟨_, rfl, _, rfl, v, b, t, rfl, TreeAt.same s03 _ ht, ho.dp, hbb.mono (by decide), fun H4 s4 => ?_⟩
    refine ⟨_, rfl, _, _, rfl, rfl, _, rfl, ?_⟩
    rw [decide_eq_false (show ¬ (2582249878086908589655919172003011874329705792829223512830659356540647622016841194629645353280137831435903171972747493376 : Int) ≤ ((val b t : Nat) : Int) by rw [GR_int]; omega)]
    exact iteF ⟨_, rfl, q _ (s03.trans s4)⟩
  · rw [hc]
    refine iteF ?_
    refine ⟨_, rfl, _, rfl, v, b, t, rfl, TreeAt.same s03 _ ht, ho.dp, hbb.mono (by decide), fun H4 s4 => ?_⟩
    refine ⟨_, rfl, _, _, rfl, rfl, _, rfl, ?_⟩
    rw [decide_eq_true (show (2582249878086908589655919172003011874329705792829223512830659356540647622016841194629645353280137831435903171972747493376 : Int) ≤ ((val b t : Nat) : Int) by rw [GR_int]; omega)]
    exact iteT (q _ (s03.trans s4))
/-! ### stepped -/
def spStepped (A1 A2 A3 : Addr) : Sp := fun vs H Q E => ∃ vn vb, vs = [vn, vb] ∧ (
  (∃ n : Nat, vn = .int (n : Nat) ∧ n < GR ∧ (
    (∃ b : Nat, vb = .int (b : Nat) ∧ 2 ≤ b ∧ Bits (b : Int) 1000 ∧ (
      (knots (writtenT b n) ≤ 300 ∧ val (b + 1) (writtenT b n) < GR ∧ ∀ H', Same H H' → Q (.int ((val (b + 1) (writtenT b n) - 1 : Nat) : Int)) H')
      ∨ (knots (writtenT b n) ≤ 300 ∧ GR ≤ val (b + 1) (writtenT b n) ∧ ∀ H', Same H H' → E (.ref A3) none H')
      ∨ (TooBig 299 b n ∧ ∀ H', Same H H' → E (.ref A3) none H')))
    ∨ (NoBase H vb ∧ E (.ref A2) none H)))
  ∨ (NoNumber H vn ∧ E (.ref A1) none H))
theorem ok_stepped (T : Txt K mg) : FnOk P w K mg base (L2N.CX P w) 42 T.a_stepped T.d_stepped ["number", "base"] (spStepped T.A_BadNumber T.A_BadBase T.A_TooGreat) := by
  have G_written := ok_written (P := P) (w := w) (base := base) T
  have G_value_of := ok_value_of (P := P) (w := w) (base := base) T 41
  refine okN T.F_stepped sc_stepped (fun vs H Q E h => ?_) (fun cdv A outer s H vs Q E hr h => ?_)
  · obtain ⟨vn, vb, rfl, _⟩ := h; rfl
  obtain ⟨vn, vb, rfl, h⟩ := h
  have R_written : Room 7 _ := hr.mono (by omega)
  have R_value_of : Room 41 _ := hr
  refine ⟨_, (pss_cons (ps_set (i := 2) sc_stepped.nd rfl (Or.inl rfl) (pe_call G_written R_written rfl T.m_written T.k_written T.b_written .nil (L2N.passes_call (L2N.takes_of rfl rfl rfl rfl) (fun _ _ _ _ h => h)) (pa_cons (pv 0) (pa_cons (pv 1) pa_nil))))
      (pss_cons (ps_set (i := 3) sc_stepped.nd rfl (Or.inl rfl) (pe_call G_value_of R_value_of rfl T.m_value_of T.k_value_of T.b_value_of .nil pass0 (pa_cons (pv 2) (pa_cons (pe_op op_add (pv 1) pe_int) pa_nil))))
      (pss_cons (ps_if (pt_cmpR op_ge (pv 3) (pe_glob (v := .int 2582249878086908589655919172003011874329705792829223512830659356540647622016841194629645353280137831435903171972747493376) rfl T.c_GREATEST ⟨_, rfl⟩) (nomark _)) (pss_one (L2N.ps_raise rfl (L2N.takes_of rfl rfl rfl rfl) (L2N.pmk_own PySem.F.excBase_ValueError T.x_TooGreat T.g_TooGreat T.k_TooGreat (raises_own T.sb_TooGreat T.tt_TooGreat) (by exact rfl)))) pss_nil)
      (pss_one (ps_ret (pe_callB (call_max2 rfl) (by rfl) T.z_max (by decide +kernel) (pa_cons pe_int (pa_cons (pe_op op_sub (pv 3) pe_int) pa_nil)))))))), ?_⟩
  rcases h with ⟨n, rfl, hn, h⟩ | ⟨hn, q⟩
  case inr => exact ⟨_, rfl, _, rfl, _, _, rfl, .inr ⟨hn, q⟩⟩
  rcases h with ⟨b, rfl, hb, bb, h⟩ | ⟨hb, q⟩
  case inr => exact ⟨_, rfl, _, rfl, _, _, rfl, .inl ⟨n, rfl, hn, .inr ⟨hb, q⟩⟩⟩
  have ev : (b : Int) + 1 = ((b + 1 : Nat) : Int) := rfl
  have b1 : Bits ((b + 1 : Nat) : Int) 1001 := by rw [← ev]; exact bb.add (Bits.mono (a := 1) (by show (1 : Nat) < 2; decide) (by decide))
  have dw := written_depth hb 6 n (tw6 hn)
  rcases h with ⟨hk, hv, q⟩ | ⟨hk, hv, q⟩ | ⟨hk, q⟩
  · refine ⟨_, rfl, _, rfl, _, _, rfl, .inl ⟨n, rfl, hn, .inl ⟨b, rfl, hb, bb, .inl ⟨hk, fun H1 r n1 => ?_⟩⟩⟩⟩
    refine ⟨_, rfl, _, rfl, _, _, rfl, rfl, r, b + 1, _, rfl, n1.at_, Nat.lt_of_lt_of_le dw (by decide), b1, fun H2 s2 => ?_⟩
    refine ⟨_, rfl, _, _, rfl, rfl, _, rfl, ?_⟩
    rw [decide_eq_false (show ¬ (2582249878086908589655919172003011874329705792829223512830659356540647622016841194629645353280137831435903171972747493376 : Int) ≤ ((val (b + 1) (writtenT b n) : Nat) : Int) by rw [GR_int]; omega)]
    refine iteF ⟨_, rfl, _, _, rfl, rfl, _, _, rfl, ?_⟩
    have e : (if ((val (b + 1) (writtenT b n) : Nat) : Int) - 1 > 0 then ((val (b + 1) (writtenT b n) : Nat) : Int) - 1 else 0) = ((val (b + 1) (writtenT b n) - 1 : Nat) : Int) := by
      by_cases c : ((val (b + 1) (writtenT b n) : Nat) : Int) - 1 > 0
      · rw [if_pos c]; omega
      · rw [if_neg c]; omega
    show Q (.int (if ((val (b + 1) (writtenT b n) : Nat) : Int) - 1 > 0 then ((val (b + 1) (writtenT b n) : Nat) : Int) - 1 else 0)) H2
    rw [e]
    exact q _ (n1.1.trans s2)
  · refine ⟨_, rfl, _, rfl, _, _, rfl, .inl ⟨n, rfl, hn, .inl ⟨b, rfl, hb, bb, .inl ⟨hk, fun H1 r n1 => ?_⟩⟩⟩⟩
    refine ⟨_, rfl, _, rfl, _, _, rfl, rfl, r, b + 1, _, rfl, n1.at_, Nat.lt_of_lt_of_le dw (by decide), b1, fun H2 s2 => ?_⟩
    refine ⟨_, rfl, _, _, rfl, rfl, _, rfl, ?_⟩
    rw [decide_eq_true (show (2582249878086908589655919172003011874329705792829223512830659356540647622016841194629645353280137831435903171972747493376 : Int) ≤ ((val (b + 1) (writtenT b n) : Nat) : Int) by rw [GR_int]; omega)]
    exact iteT (q _ (n1.1.trans s2))
  · exact ⟨_, rfl, _, rfl, _, _, rfl, .inl ⟨n, rfl, hn, .inl ⟨b, rfl, hb, bb, .inr ⟨hk, q⟩⟩⟩⟩
end
section
variable {P : Program} {w : World} {K : PySem.W.Frag} {mg : Str → Option Value} {base : Heap}
/-! ### _law_number: some number of not too many bits -/
def NB : Nat := 1050000
def spLawNumber : Sp := fun vs H Q _ => ∃ (c wh : Int) (at_ : Nat), vs = [.int c, .int at_, .int wh] ∧ Bits c NB ∧ Bits wh NB ∧ at_ ≤ 1000 ∧ ∀ z, Bits z 2200000 → Q (.int z) H
theorem ok__law_number (T : Txt K mg) : FnOk P w K mg base CX0 1 T.a__law_number T.d__law_number ["_law_cell", "_law_at", "_law_whole"] spLawNumber := by
  refine T.F__law_number.ok sc__law_number (fun vs H Q E h => ?_) (fun cdv A outer s H vs Q E hr h => ?_)
  · obtain ⟨c, wh, at_, rfl, _⟩ := h; rfl
  obtain ⟨c, wh, at_, rfl, hc, hw, hat, q⟩ := h
  have bat : Bits (at_ : Int) 10 := Bits.lt (n := 1024) (by omega) (by omega) (by decide)
  refine ⟨_, (pss_cons (ps_if (pt_cmpR op_ge (pv 0) (pe_op op_pow pe_int pe_int) (nomark _)) (pss_one (ps_ret (pe_op op_fdivW (pv 0) (pe_op op_add pe_int (pe_op op_mod (pv 1) pe_int))))) pss_nil)
      (pss_cons (ps_set (i := 3) sc__law_number.nd rfl (Or.inl rfl) (pe_op op_mod (pe_op op_add (pe_op op_mulX (pe_op op_add (pv 0) (pe_op op_mulX pe_int (pv 1))) pe_int) (pv 2)) pe_int))
      (pss_cons (ps_set (i := 4) sc__law_number.nd rfl (Or.inl rfl) (pe_op op_mulX (pv 3) (pe_op op_add (pe_op op_add (pv 0) (pe_op op_mulX pe_int (pv 1))) pe_int)))
      (pss_one (ps_ret (pe_op op_fdivW (pe_op op_mulX (pe_op op_mulX (pv 4) (pe_op op_add (pe_op op_add (pv 3) (pv 0)) pe_int)) (pe_op op_add (pe_op op_mulX (pv 3) (pv 3)) pe_int)) (pe_op op_add pe_int (pv 1)))))))), ?_⟩
  refine ⟨_, rfl, _, _, rfl, rfl, (by exact ⟨by decide, by decide, by decide⟩), _, _, rfl, rfl, _, rfl, ?_⟩
  refine ite2 (fun _ => ?_) (fun _ => ?_)
  · have m0 : 0 ≤ (at_ : Int) % 7 := Int.emod_nonneg _ (by decide)
    have m1 : (at_ : Int) % 7 < 7 := Int.emod_lt_of_pos _ (by decide)
    have e : ∀ x : Int, 0 ≤ x → x < 7 → CDivW c (1 + x) := fun x h0 h1 => wide_div (b := 4) (by omega) (by show (1 + x).natAbs < 16; omega) (by decide) (by decide)
    exact ⟨_, rfl, _, rfl, _, _, rfl, rfl, (by show (0 : Int) < 7; decide), _, _, rfl, rfl, _, _, rfl, rfl, e _ m0 m1, q _ ((hc.div).mono (by decide))⟩
  · have b1 : Bits (977 * (at_ : Int)) 20 := Bits.mul (a := 10) (b := 10) (by show (977 : Nat) < 1024; decide) bat
    have b2 : Bits (c + 977 * (at_ : Int)) (NB + 1) := hc.add (b1.mono (by decide))
    have b3 : Bits ((c + 977 * (at_ : Int)) * 48271) (NB + 1 + 16) := b2.mul (b := 16) (by show (48271 : Nat) < 65536; decide)
    refine ⟨_, rfl, _, rfl, _, _, rfl, rfl, Bits.mulX (a := 10) (b := 10) (by show (977 : Nat) < 1024; decide) bat (by decide), _, _, rfl, rfl, _, _, rfl, rfl, b2.mulX (b := 16) (by show (48271 : Nat) < 65536; decide) (by decide), _, rfl, _, _, rfl, rfl, _, _, rfl, rfl, (by show (0 : Int) < 2147483647; decide), ?_⟩
    have m0 : 0 ≤ ((c + 977 * (at_ : Int)) * 48271 + wh) % 2147483647 := Int.emod_nonneg _ (by decide)
    have m1 : ((c + 977 * (at_ : Int)) * 48271 + wh) % 2147483647 < 2147483647 := Int.emod_lt_of_pos _ (by decide)
    show tSeq _ _ _ [_, _, _, some (V.int (((c + 977 * (at_ : Int)) * 48271 + wh) % 2147483647)), _] H
    generalize ((c + 977 * (at_ : Int)) * 48271 + wh) % 2147483647 = m at m0 m1 ⊢
    have bm : Bits m 31 := Bits.lt (n := 2147483647) m0 m1 (by decide)
    have b4 : Bits (31 * (at_ : Int)) 15 := Bits.mul (a := 5) (b := 10) (by show (31 : Nat) < 32; decide) bat
    have b5 : Bits (c + 31 * (at_ : Int)) (NB + 1) := hc.add (b4.mono (by decide))
    have b6 : Bits (c + 31 * (at_ : Int) + 7) (NB + 2) := b5.add (Bits.mono (a := 3) (by show (7 : Nat) < 8; decide) (by decide))
    refine ⟨_, rfl, _, rfl, _, rfl, _, _, rfl, rfl, Bits.mulX (a := 5) (b := 10) (by show (31 : Nat) < 32; decide) bat (by decide), _, _, rfl, rfl, _, _, rfl, rfl, _, _, rfl, rfl, bm.mulX b6 (by decide), ?_⟩
    have b7 : Bits (m * (c + 31 * (at_ : Int) + 7)) (31 + (NB + 2)) := bm.mul b6
    have b8 : Bits (m + c) (NB + 1) := (bm.mono (by decide)).add hc
    have b9 : Bits (m + c + 5) (NB + 2) := b8.add (Bits.mono (a := 3) (by show (5 : Nat) < 8; decide) (by decide))
    have b10 : Bits (m * m) 62 := bm.mul bm
    have b11 : Bits (m * m + 11) 63 := b10.add (Bits.mono (a := 4) (by show (11 : Nat) < 16; decide) (by decide))
    have b12 := b7.mul b9
    have b13 := b12.mul b11
    have cd : CDivW (m * (c + 31 * (at_ : Int) + 7) * (m + c + 5) * (m * m + 11)) (1009 + (at_ : Int)) := wide_div (b := 12) (by omega) (by show (1009 + (at_ : Int)).natAbs < 4096; omega) (by decide) (by decide)
    exact ⟨_, rfl, _, rfl, _, rfl, _, _, rfl, rfl, _, _, rfl, rfl, _, _, rfl, rfl, b7.mulX b9 (by decide), _, rfl, _, rfl, _, _, rfl, rfl, bm.mulX bm (by decide), _, _, rfl, rfl, _, _, rfl, rfl, b12.mulX b11 (by decide), _, rfl, _, _, rfl, rfl, _, _, rfl, rfl, cd, q _ (b13.div.mono (by decide))⟩
end
section
variable {P : Program} {w : World} {K : PySem.W.Frag} {mg : Str → Option Value} {base : Heap}
/-! ### text_of -/
def spTextOf (n : Nat) : Sp := fun vs H Q _ => ∃ (v : V) (t : Tt), vs = [v] ∧ TreeAt H v t ∧ knots t ≤ 100000 ∧ depth t < n ∧ ∀ H', Same H H' → Q (.str (mkS (txt t))) H'
theorem sum_len : ∀ l : List (List Nat), ((l.map mkS).map (·.length)).sum = l.flatten.length
  | [] => rfl
  | x :: l => by
    rw [List.map_cons, List.map_cons, List.sum_cons, sum_len l, List.flatten_cons, List.length_append]
    have := mkS_len x
    omega
theorem ok_text_of (T : Txt K mg) : ∀ n, FnOk P w K mg base CX0 n T.a_text_of T.d_text_of ["tree"] (spTextOf n)
  | 0 => none_left fun vs H Q E ⟨v, t, _, _, _, h, _⟩ => by omega
  | n + 1 => by
    have G_text_of := ok_text_of T n
    refine T.F_text_of.ok sc_text_of (fun vs H Q E h => ?_) (fun cdv A outer s H vs Q E hr h => ?_)
    · obtain ⟨v, t, rfl, _⟩ := h; rfl
    obtain ⟨v, ⟨bs⟩, rfl, ht, hk, hd, q⟩ := h
    have R_text_of : Room n _ := hr
    rw [treeAt_mk] at ht
    obtain ⟨a, xs, rfl, ha, hbs⟩ := ht
    have hk' : 1 + knotsL bs ≤ 100000 := by rw [knots] at hk; exact hk
    have hlen := knotsL_len bs
    refine ⟨_, (pss_one (ps_ret (pe_bm PySem.F.plainAttrs_str PySem.F.slot_str_join PySem.F.type_str_join mt_join pe_str (pa_cons (pe_lc (own := [("branch", 1)]) (g := gName 1) (tt := tYes) rfl sc_text_of.nd (pi_list (pv 0)) (blkOk_by (own := [("branch", 1)]) (N := ["tree", "branch"]) (sc := defScope s_text_of) (by decide +kernel)) (fun _ _ _ _ _ => (pg_name (i := 1) sc_text_of.nd rfl (Or.inl rfl))) (fun _ _ _ _ _ => pts_nil) (fun _ _ _ _ _ => (pe_op op_add_str (pe_op op_add_str pe_str (pe_call G_text_of R_text_of rfl T.m_text_of T.k_text_of T.b_text_of .nil pass0 (pa_cons (pv 1) pa_nil))) pe_str))) pa_nil)))), ?_⟩
    refine ⟨rfl, _, rfl, a, rfl, ⟨xs, SqL.of ha⟩, fun D nD => ?_⟩
    refine lc_it (walk_list (xs := xs)) (fun i H' => Fill H H' D (((bs.take i).map fun x => 40 :: (txt x ++ [41])).map fun l => V.str (mkS l))) (Fill.start nD) (fun i H' _ g => SqL.of (g.1 _ _ ha)) ?_ ?_
    · rintro i x H1 H2 hi g ⟨rfl, hx⟩
      obtain ⟨b, hb, hxb⟩ := hbs.get hx
      have mb := List.mem_of_getElem? hb
      have hib := (List.getElem?_eq_some_iff.mp hb).1
      have kb := knotsL_mem mb
      have lb := txt_len b
      have szl : (100000 : Nat) * 2 + 2 ≤ sizeLine := by decide
      refine ⟨rfl, _, rfl, x, b, rfl, TreeAt.same g.1 b hxb, by omega, depth_bs hd mb, fun H3 s3 => ?_⟩
      have e1 : Str.ofString "(" ++ mkS (txt b) = mkS (40 :: txt b) := by rw [lit40, mkS_append]; rfl
      have e2 : mkS (40 :: txt b) ++ Str.ofString ")" = mkS (40 :: (txt b ++ [41])) := by rw [lit41, mkS_append]; rfl
      refine ⟨_, _, rfl, rfl, ?_, ?_⟩
      · rw [lit40, mkS_len, mkS_len, List.length_singleton]; omega
      rw [e1]
      refine ⟨_, _, rfl, rfl, ?_, ?_⟩
      · rw [lit41, mkS_len, mkS_len, List.length_singleton, List.length_cons]; omega
      rw [e2]
      obtain ⟨h1, h2⟩ := g.more (v := .str (mkS (40 :: (txt b ++ [41])))) s3
      refine ⟨_, h1, ?_, ?_⟩
      · rw [List.length_map, List.length_map, List.length_take]
        exact lim_line (by have : (100000 : Nat) ≤ lim := by decide
                           omega)
      · rw [take_more hb, List.map_append, List.map_append]; exact h2
    · intro H1 g
      rw [hbs.len, List.take_length] at g
      have ef := flatten_txt bs
      refine ⟨_, D, (bs.map fun x => 40 :: (txt x ++ [41])).map mkS, rfl, rfl, .inl (SqL.of (by rw [g.2.2, List.map_map, List.map_map, List.map_map]; rfl)), ?_, ?_⟩
      · rw [sum_len, ef, txtL_len, List.length_map, List.length_map]
        have : (Str.ofString "").length = 0 := by rw [litE, mkS_len]; rfl
        rw [this]
        omega
      · rw [litE, join_nil, ef]
        have := q H1 g.1
        rw [txt_mk] at this
        exact this
/-! ### text -/
def spText (A : Addr) : Sp := fun vs H Q E => ∃ v, vs = [v] ∧ ((∃ t, TreeAt H v t ∧ okT t ∧ ∀ H', Same H H' → Q (.str (mkS (txt (told t)))) H') ∨ (Bad H v ∧ ∀ H', Same H H' → E (.ref A) none H'))
theorem ok_text (T : Txt K mg) : FnOk P w K mg base (L2N.CX P w) 44 T.a_text T.d_text ["tree"] (spText T.A_BadTree) := by
  have G_asked_tree := ok_asked_tree (P := P) (w := w) (base := base) T
  have G_told_of := ok_told_of (P := P) (w := w) (base := base) T 41
  have G_text_of := ok_text_of (P := P) (w := w) (base := base) T 41
  refine okN T.F_text sc_text (fun vs H Q E h => ?_) (fun cdv A outer s H vs Q E hr h => ?_)
  · obtain ⟨v, rfl, _⟩ := h; rfl
  obtain ⟨v, rfl, h⟩ := h
  have R_asked_tree : Room 43 _ := hr
  have R_told_of : Room 43 _ := hr
  have R_text_of : Room 41 _ := hr.mono (by omega)
  refine ⟨_, (pss_cons (ps_expr (pe_call G_asked_tree R_asked_tree rfl T.m_asked_tree T.k_asked_tree T.b_asked_tree .nil (L2N.passes_call (L2N.takes_of rfl rfl rfl rfl) (fun _ _ _ _ h => h)) (pa_cons (pv 0) pa_nil)))
      (pss_one (ps_ret (pe_call G_text_of R_text_of rfl T.m_text_of T.k_text_of T.b_text_of .nil pass0 (pa_cons (pe_call G_told_of R_told_of rfl T.m_told_of T.k_told_of T.b_told_of .nil pass0 (pa_cons (pv 0) pa_nil)) pa_nil))))), ?_⟩
  rcases h with ⟨t, ht, ho, q⟩ | ⟨hb, q⟩
  · refine ⟨_, rfl, v, rfl, .inl ⟨t, ht, ho, fun H1 s1 => ?_⟩⟩
    refine ⟨_, rfl, v, t, rfl, TreeAt.same s1 t ht, ho.fit, ho.dp, fun H2 r nw => ?_⟩
    exact ⟨r, told t, rfl, nw.at_, by rw [knots_told]; exact Nat.le_trans ho.1 (by decide), depth_told ho.dp, fun H3 s3 => q _ (s1.trans (nw.1.trans s3))⟩
  · exact ⟨_, rfl, v, rfl, .inr ⟨hb, fun H1 s1 => q _ s1⟩⟩
end
/-- the last but one takes the last one in -/
theorem Grow.fold {H H' : Hp} {O : Addr} {ts p b : List Tt} (g : Grow H H' O (ts ++ [.mk p, .mk b])) : ∃ acc ap ab pv, H' O = some (.lst (acc ++ [.ref ap, .ref ab])) ∧ acc.length = ts.length ∧ ap ≠ O ∧ H' ap = some (.lst pv) ∧ pv.length = p.length ∧
    Grow H (upd (upd H' O (.lst (acc ++ [.ref ap]))) ap (.lst (pv ++ [.ref ab]))) O (ts ++ [.mk (p ++ [.mk b])]) := by
  obtain ⟨k, hO, vs, as, h1, ow, nd, fr⟩ := g
  obtain ⟨acc, v2, a1, a2, rfl, rfl, o1, o2⟩ := ow.split
  rw [owns_cons] at o2
  obtain ⟨vp, w2, c1, c2, rfl, rfl, p1, p2⟩ := o2
  rw [owns_cons] at p2
  obtain ⟨vb, w3, c3, c4, rfl, rfl, p3, p4⟩ := p2
  rw [owns_nil] at p4
  obtain ⟨rfl, rfl⟩ := p4
  rw [own_mk] at p1 p3
  obtain ⟨ap, pv, asp, rfl, rfl, hp, op⟩ := p1
  obtain ⟨ab, bv, asb, rfl, rfl, hb, ob⟩ := p3
  rw [List.append_nil] at nd fr
  obtain ⟨nO, nas⟩ := List.nodup_cons.mp nd
  obtain ⟨n1, n2, n12⟩ := List.nodup_append.mp nas
  obtain ⟨n3, n4, n34⟩ := List.nodup_append.mp n2
  obtain ⟨n5, n6⟩ := List.nodup_cons.mp n3
  have apO : ap ≠ O := fun e => nO (by rw [← e]; exact List.mem_append_right _ (List.mem_append_left _ List.mem_cons_self))
  have keep : ∀ c, c ≠ O → c ≠ ap → ∀ o, H' c = some o → upd (upd H' O (.lst (acc ++ [.ref ap]))) ap (.lst (pv ++ [.ref ab])) c = some o := fun c h1 h2 o e => by
    rw [upd_ne h2, upd_ne h1]; exact e
  have ap1 : ∀ c, c ∈ a1 → c ≠ ap := fun c hc e => n12 c hc ap (List.mem_append_left _ List.mem_cons_self) e
  have ne1 : ∀ c, c ∈ a1 → c ≠ O := fun c hc e => nO (by rw [← e]; exact List.mem_append_left _ hc)
  have ne2 : ∀ c, c ∈ asp → c ≠ O := fun c hc e => nO (by rw [← e]; exact List.mem_append_right _ (List.mem_append_left _ (List.mem_cons_of_mem _ hc)))
  have ne3 : ∀ c, c ∈ (ab :: asb) → c ≠ O := fun c hc e => nO (by rw [← e]; exact List.mem_append_right _ (List.mem_append_right _ hc))
  have ap2 : ∀ c, c ∈ asp → c ≠ ap := fun c hc e => n5 (by rw [← e]; exact hc)
  have ap3 : ∀ c, c ∈ (ab :: asb) → c ≠ ap := fun c hc e => n34 ap List.mem_cons_self c hc e.symm
  refine ⟨acc, ap, ab, pv, h1, o1.len, apO, hp, op.len, ⟨fun c o e => ?_, hO, acc ++ [.ref ap], a1 ++ (ap :: (asp ++ (ab :: asb))), ?_, ?_, ?_, fun c hc => ?_⟩⟩
  · have h2 : c ≠ ap := fun z => by
      have := fr ap (List.mem_append_right _ (List.mem_append_left _ List.mem_cons_self))
      rw [z, this] at e; cases e
    exact keep c (ne_of_none e hO) h2 o (k _ _ e)
  · rw [upd_ne apO.symm]; exact upd_same
  · refine Owns.append (Owns.frame _ o1 fun c hc o e => keep c (ne1 c hc) (ap1 c hc) o e) (Owns.one ?_)
    rw [own_mk]
    refine ⟨ap, _, _, rfl, rfl, upd_same, Owns.append (Owns.frame _ op fun c hc o e => keep c (ne2 c hc) (ap2 c hc) o e) (Owns.one ?_)⟩
    rw [own_mk]
    refine ⟨ab, bv, asb, rfl, rfl, keep ab (ne3 ab List.mem_cons_self) (ap3 ab List.mem_cons_self) _ hb, Owns.frame _ ob fun c hc o e => keep c (ne3 c (List.mem_cons_of_mem _ hc)) (ap3 c (List.mem_cons_of_mem _ hc)) o e⟩
  · have e : a1 ++ (ap :: (asp ++ (ab :: asb))) = a1 ++ (ap :: asp ++ (ab :: asb)) := by simp
    rw [e]; exact nd
  · have e : a1 ++ (ap :: (asp ++ (ab :: asb))) = a1 ++ (ap :: asp ++ (ab :: asb)) := by simp
    rw [e] at hc; exact fr c hc
/-- the one that is left -/
theorem Grow.only {H H' : Hp} {O : Addr} {t : List Tt} (g : Grow H H' O [.mk t]) : ∃ r, H' O = some (.lst [r]) ∧ New H H' r (.mk t) := by
  obtain ⟨k, hO, vs, as, h1, ow, nd, fr⟩ := g
  rw [owns_cons] at ow
  obtain ⟨v, w, c1, c2, rfl, rfl, p1, p2⟩ := ow
  rw [owns_nil] at p2
  obtain ⟨rfl, rfl⟩ := p2
  rw [List.append_nil] at nd fr
  exact ⟨v, h1, k, c1, p1, (List.nodup_cons.mp nd).2, fr⟩
/-- the stack as it lies in the list, the innermost last -/
def stkT (st : Stk) : List Tt := st.reverse.map Tt.mk
theorem stkT_push (st : Stk) : stkT ([] :: st) = stkT st ++ [.mk []] := by unfold stkT; simp
theorem stkT_two (b p : List Tt) (r : Stk) : stkT (b :: p :: r) = stkT r ++ [.mk p, .mk b] := by unfold stkT; simp
theorem stkT_fold (b p : List Tt) (r : Stk) : stkT ((p ++ [.mk b]) :: r) = stkT r ++ [.mk (p ++ [.mk b])] := by unfold stkT; simp
theorem stkT_len (st : Stk) : (stkT st).length = st.length := by unfold stkT; simp
theorem atI_end {α : Type} (xs : List α) (v : α) : atI (xs ++ [v]) (-1) = some v := atI_last xs v
theorem sign_eq (c : Nat) : (V.str ⟨#[c]⟩ = V.str (Str.ofString "(")) ↔ c = 40 := by
  rw [lit40]
  constructor
  · intro h
    injection h with h
    unfold mkS at h
    injection h with h
    have := congrArg Array.toList h
    simpa using this
  · intro h; rw [h]; rfl
/-- open_ones = [[]] -/
theorem grow_one {H : Hp} {p0 O : Addr} (np0 : H p0 = none) (nO : upd H p0 (.lst []) O = none) : Grow H (upd (upd H p0 (.lst [])) O (.lst [.ref p0])) O (stkT [[]]) := by
  have s1 : Same H (upd H p0 (.lst [])) := same_new np0 _
  have u1 : upd H p0 (.lst []) p0 = some (.lst []) := upd_same
  have ne : p0 ≠ O := fun e => by rw [e] at u1 nO; rw [nO] at u1; cases u1
  have s2 : Same (upd H p0 (.lst [])) (upd (upd H p0 (.lst [])) O (.lst [.ref p0])) := same_new nO _
  refine ⟨s1.trans s2, s1.free nO, [.ref p0], [p0], upd_same, ?_, ?_, ?_⟩
  · refine Owns.one ?_
    rw [own_mk]
    refine ⟨p0, [], [], rfl, rfl, s2 _ _ u1, ?_⟩
    rw [owns_nil]
    exact ⟨rfl, rfl⟩
  · simp; exact fun e => ne e.symm
  · intro a ha
    rw [List.mem_singleton] at ha
    rw [ha]; exact np0
theorem rdL_at {l : List Nat} {i c : Nat} {st : Stk} (h : l[i]? = some c) : rdL st l = (rdL st (l.take i)).bind fun s => rdL s (c :: l.drop (i + 1)) := by
  have e : l = l.take i ++ (c :: l.drop (i + 1)) := by
    obtain ⟨hi, e⟩ := List.getElem?_eq_some_iff.mp h
    rw [← e, List.getElem_cons_drop, List.take_append_drop]
  rw [← rdL_append, ← e]
theorem len_knotsL : ∀ l : List Tt, l.length ≤ knotsL l
  | [] => by simp [knotsL]
  | x :: l => by
    rw [List.length_cons, knotsL]
    have := len_knotsL l
    have := depth_knots x
    omega
theorem stT_le : ∀ st : Stk, st ≠ [] → st.length ≤ (stT st).length + 1 ∧ ∀ p, p ∈ st → p.length ≤ (stT st).length
  | [], h => absurd rfl h
  | [s], _ => by
    refine ⟨by simp, fun p hp => ?_⟩
    rw [List.mem_singleton] at hp
    subst hp
    show _ ≤ (txtL p).length
    have := txtL_len p
    have := len_knotsL p
    omega
  | s :: t :: r, _ => by
    obtain ⟨h1, h2⟩ := stT_le (t :: r) (by simp)
    have e1 : (stT (s :: t :: r)).length = (stT (t :: r)).length + ((txtL s).length + 1) := by
      rw [stT_two, List.length_append, List.length_cons]
    rw [e1]
    refine ⟨by rw [List.length_cons]; omega, fun p hp => ?_⟩
    rcases List.mem_cons.mp hp with e | hp
    · subst e
      have := txtL_len p
      have := len_knotsL p
      omega
    · have := h2 p hp
      omega
theorem stk_le {l : List Nat} {st : Stk} (h : rdL [[]] l = some st) (hb : brk l) : st.length ≤ l.length + 1 ∧ ∀ p, p ∈ st → p.length ≤ l.length := by
  obtain ⟨h1, h2⟩ := rdS_txt _ _ _ (by simp) hb (rdL_rdS _ _ _ h)
  have h3 := stT_le st h1
  have e : stT st = l := by
    rw [h2]
    show txtL [] ++ l = l
    rw [txtL_nil]; rfl
  rw [e] at h3
  exact h3
section
variable {P : Program} {w : World} {K : PySem.W.Frag} {mg : Str → Option Value} {base : Heap}
/-! ### read -/
/-- no text at all, too long a one, one with other signs -/
inductive BadTx (K : PySem.W.Frag) (H : Hp) : V → Prop where
  | other {v : V} {ty : Value} (h : TyX K H v ty) (k : PySem.W.kitOne K ty (.type "str") = some false) : BadTx K H v
  | long {z : Str} (h : 598 < z.length) (hz : z.length ≤ sizeLine) : BadTx K H (.str z)
  | signs {z : Str} (h : z.length ≤ 598) (k : Txt.stripChars z (Str.ofString "()") ≠ Str.ofString "") : BadTx K H (.str z)
def spRead (K : PySem.W.Frag) (A : Addr) : Sp := fun vs H Q E => ∃ v, vs = [v] ∧
  ((∃ l, v = .str (mkS l) ∧ brk l ∧ l.length ≤ 598 ∧ (∀ t, rdL [[]] l = some [t] → ∀ H' r, New H H' r (.mk t) → Q r H') ∧ ((∀ t, rdL [[]] l ≠ some [t]) → ∀ H', Same H H' → E (.ref A) none H')) ∨
    (BadTx K H v ∧ ∀ H', Same H H' → E (.ref A) none H'))
theorem ok_read (T : Txt K mg) : FnOk P w K mg base (L2N.CX P w) 2 T.a_read T.d_read ["text"] (spRead K T.A_BadText) := by
  refine okN T.F_read sc_read (fun vs H Q E h => ?_) (fun cdv A outer s H vs Q E hr h => ?_)
  · obtain ⟨v, rfl, _⟩ := h; rfl
  obtain ⟨v, rfl, h⟩ := h
  refine ⟨_, (pss_cons (ps_if (PW.pt (pw_or (pt_not (pt_val (pe_callB (r := rIsi K) call_isi (by rfl) T.z_isinstance (by decide +kernel) (pa_cons (pv 0) (pa_cons (pe_bltn (v := .ty "str") (u := .type "str") (by rfl) T.z_str (by decide +kernel) rfl) pa_nil))))) (pw_or (pt_cmpR op_gt (pe_callB call_len_str rfl T.z_len PySem.boot_len (pa_cons (pv 0) pa_nil)) (pe_op op_sub (pe_op op_mulX pe_int (pe_glob (v := .int 300) rfl T.c_MOST ⟨_, rfl⟩)) pe_int) (nomark _)) (pw_or1 (pt_cmpR op_ne (pe_bm PySem.F.plainAttrs_str PySem.F.slot_str_strip PySem.F.type_str_strip mt_stripChars (pv 0) (pa_cons pe_str pa_nil)) pe_str (nomark _)))))) (pss_one (L2N.ps_raise rfl (L2N.takes_of rfl rfl rfl rfl) (L2N.pmk_own PySem.F.excBase_ValueError T.x_BadText T.g_BadText T.k_BadText (raises_own T.sb_BadText T.tt_BadText) (by exact rfl)))) pss_nil)
      (pss_cons (ps_set (i := 1) sc_read.nd rfl (Or.inl rfl) (pe_lst (pa_cons (pe_lst pa_nil) pa_nil)))
      (pss_cons (ps_for (passes_of rfl) rfl (pi_str (pv 0)) (pg_name (i := 2) sc_read.nd rfl (Or.inl rfl)) (pss_cut2 (ps_if (pt_cmpR op_eq (pv 2) pe_str (nomark _)) (pss_one (ps_expr (pe_bm PySem.F.plainAttrs_list PySem.F.slot_list_append PySem.F.type_list_append mt_append (pv 1) (pa_cons (pe_lst pa_nil) pa_nil)))) (pss_one (ps_if (pt_cmpR op_gt (pe_callB (r := rLenS K) call_len_seqK rfl T.z_len PySem.boot_len (pa_cons (pv 1) pa_nil)) pe_int (nomark _)) (pss_cons (ps_set (i := 3) sc_read.nd rfl (Or.inl rfl) (pe_bm0 PySem.F.plainAttrs_list PySem.F.slot_list_pop PySem.F.type_list_pop mt_pop (pv 1)))
            (pss_one (ps_expr (pe_bm PySem.F.plainAttrs_list PySem.F.slot_list_append PySem.F.type_list_append mt_append (pe_ix (r := rIxL K) ix_list (pv 1) (pe_un un_neg pe_int) (fun _ _ => rfl)) (pa_cons (pv 3) pa_nil))))) (pss_one (L2N.ps_raise rfl (L2N.takes_of rfl rfl rfl rfl) (L2N.pmk_own PySem.F.excBase_ValueError T.x_BadText T.g_BadText T.k_BadText (raises_own T.sb_BadText T.tt_BadText) (by exact rfl)))))))
        (pss_one (ps_if (pt_cmpR op_gt (pe_callB (r := rLenS K) call_len_seqK rfl T.z_len PySem.boot_len (pa_cons (pv 1) pa_nil)) (pe_op op_add (pe_glob (v := .int 40) rfl T.c_DEEPEST ⟨_, rfl⟩) pe_int) (nomark _)) (pss_one (L2N.ps_raise rfl (L2N.takes_of rfl rfl rfl rfl) (L2N.pmk_own PySem.F.excBase_ValueError T.x_BadText T.g_BadText T.k_BadText (raises_own T.sb_BadText T.tt_BadText) (by exact rfl)))) pss_nil))))
      (pss_cons (ps_if (pt_cmpR op_gt (pe_callB (r := rLenS K) call_len_seqK rfl T.z_len PySem.boot_len (pa_cons (pv 1) pa_nil)) pe_int (nomark _)) (pss_one (L2N.ps_raise rfl (L2N.takes_of rfl rfl rfl rfl) (L2N.pmk_own PySem.F.excBase_ValueError T.x_BadText T.g_BadText T.k_BadText (raises_own T.sb_BadText T.tt_BadText) (by exact rfl)))) pss_nil)
      (pss_one (ps_ret (pe_ix (r := rIxL K) ix_list (pv 1) pe_int (fun _ _ => rfl)))))))), ?_⟩
  have mo : CMulX 2 300 := mulX (a := 2) (b := 9) (by decide) (by decide) (by decide)
  rcases h with ⟨l, rfl, hb, hl, qt, qf⟩ | ⟨hbad, q⟩
  · have hcl := mkS_len l
    have szl : (1000 : Nat) ≤ sizeLine := by decide
    refine ⟨_, rfl, _, _, .type "str", .type "str", true, rfl, ClsV.ty _, .base (.str _), kit_ty (by decide +kernel), _, rfl, iteF ?_⟩
    refine ⟨_, rfl, _, rfl, by rw [hcl]; omega, _, _, rfl, rfl, mo, _, _, rfl, rfl, _, _, rfl, rfl, _, rfl, ?_⟩
    refine ite2 (fun c => ?_) (fun c => ?_)
    · have c' : (2 * 300 - 2 : Int) < ((mkS l).length : Nat) := of_decide_eq_true c
      rw [hcl] at c'; omega
    refine ⟨_, rfl, rfl, _, _, rfl, rfl, by rw [hcl]; omega, ?_⟩
    have es : Txt.stripChars (mkS l) (Str.ofString "()") = Str.ofString "" := by rw [litB, litE, strip_brk hb]
    rw [es]
    refine ⟨rfl, _, rfl, iteNS rfl ?_⟩
    -- open_ones = [[]]
    refine ⟨(by show 0 ≤ sizeLine; decide), fun p0 np0 => ?_⟩
    have n0 : New H (upd H p0 (.lst [])) (.ref p0) (.mk []) := (Grow.start np0).done
    refine ⟨(by show 1 ≤ sizeLine; decide), fun O nO => ?_⟩
    have g0 : Grow H (upd (upd H p0 (.lst [])) O (.lst [.ref p0])) O (stkT [[]]) := grow_one np0 nO
    generalize upd (upd H p0 (.lst [])) O (.lst [.ref p0]) = G0 at g0 ⊢
    have e0 : (mkS l).cps.toList = l := by unfold mkS; simp
    have ez : (mkS l).cps.size = l.length := by unfold mkS; simp
    refine ⟨_, rfl, mkS l, rfl, ?_⟩
    refine for_it walk_str (fun i σ H' => ∃ o2 o3 st, σ = [some (.str (mkS l)), some (.ref O), o2, o3] ∧ rdL [[]] (l.take i) = some st ∧ Grow H H' O (stkT st)) ⟨none, none, [[]], rfl, rfl, g0⟩ (fun _ _ _ _ _ => trivial) ?_ ?_
    · rintro i x σ H1 H2 hi ⟨o2, o3, st, rfl, hst, g⟩ ⟨rfl, c, hc, rfl⟩
      have hc' : l[i]? = some c := by rw [← Array.getElem?_toList, e0] at hc; exact hc
      have hne : st ≠ [] := (rdS_txt _ _ _ (by simp) (fun d hd => hb d (List.mem_of_mem_take hd)) (rdL_rdS _ _ _ hst)).1
      have hbound := stk_le hst (fun d hd => hb d (List.mem_of_mem_take hd))
      have htk : (l.take i).length ≤ 598 := by rw [List.length_take]; omega
      have hcc := hb c (List.mem_of_getElem? hc')
      refine ⟨fun σ' H' => ∃ o3 s, σ' = [some (.str (mkS l)), some (.ref O), some (.str ⟨#[c]⟩), o3] ∧ step1 st c = some s ∧ Grow H H' O (stkT s), ?_, ?_⟩
      · refine ⟨_, rfl, rfl, _, rfl, ite2 (fun e => ?_) (fun e => ?_)⟩
        · have ec := (sign_eq c).mp (of_decide_eq_true e)
          obtain ⟨acc, hO, hacc, _⟩ := g.at_
          refine ⟨_, rfl, .inl ⟨rfl, _, SqL.of hO⟩, (by show 0 ≤ sizeLine; decide), fun p np => ?_⟩
          obtain ⟨acc2, h1, h2, h3⟩ := g.more (Grow.start np).done
          refine ⟨_, _, _, rfl, rfl, h1, ?_, o3, [] :: st, rfl, ?_, ?_⟩
          · rw [h2, stkT_len]; omega
          · unfold step1; rw [if_pos ec]
          · rw [stkT_push]; exact h3
        · have ec : ¬ c = 40 := fun z => e (decide_eq_true ((sign_eq c).mpr z))
          obtain ⟨acc, hO, hT, hacc⟩ := g.at_
          rw [stkT_len] at hacc
          refine ⟨_, rfl, _, _, rfl, .inl (SqL.of hO), _, _, rfl, rfl, _, rfl, ite2 (fun e2 => ?_) (fun e2 => ?_)⟩
          · have e3 : (1 : Int) < (acc.length : Nat) := of_decide_eq_true e2
            have e4 : 2 ≤ st.length := by omega
            obtain ⟨b, p, r, rfl⟩ : ∃ b p r, st = b :: p :: r := by
              match st, e4 with
              | b :: p :: r, _ => exact ⟨b, p, r, rfl⟩
            rw [stkT_two] at g
            obtain ⟨ac, ap, ab, pv, k1, k2, k3, k4, k5, k6⟩ := g.fold
            refine ⟨_, rfl, .inl ⟨rfl, _, SqL.of k1⟩, _, _, .ref ab, rfl, rfl, k1, ?_, ?_⟩
            · show (ac ++ [V.ref ap, V.ref ab])[(ac ++ [V.ref ap, V.ref ab]).length - 1]? = some (V.ref ab)
              have e5 : ac ++ [V.ref ap, V.ref ab] = (ac ++ [V.ref ap]) ++ [V.ref ab] := by simp
              rw [e5, List.length_append, List.length_singleton, Nat.add_sub_cancel]
              exact List.getElem?_concat_length
            · have e5 : (ac ++ [V.ref ap, V.ref ab]).dropLast = ac ++ [V.ref ap] := by
                have e5 : ac ++ [V.ref ap, V.ref ab] = (ac ++ [V.ref ap]) ++ [V.ref ab] := by simp
                rw [e5, List.dropLast_concat]
              rw [e5]
              have kp : upd H2 O (.lst (ac ++ [.ref ap])) ap = some (.lst pv) := by rw [upd_ne k3]; exact k4
              refine ⟨_, rfl, _, rfl, O, _, _, .ref ap, rfl, rfl, SqL.of upd_same, atI_end _ _, .inl ⟨rfl, _, SqL.of kp⟩, _, rfl, ap, pv, _, rfl, rfl, kp, ?_, _, (p ++ [.mk b]) :: r, rfl, ?_, ?_⟩
              · have := hbound.2 p (by simp)
                omega
              · unfold step1; rw [if_neg ec]
              · rw [stkT_fold]; exact k6
          · have e3 : ¬ (1 : Int) < (acc.length : Nat) := fun z => e2 (decide_eq_true z)
            refine qf (fun t ht => ?_) _ g.same
            obtain ⟨b, rfl⟩ : ∃ b, st = [b] := by
              match st, hne with
              | [b], _ => exact ⟨b, rfl⟩
              | b :: p :: r, _ => rw [List.length_cons, List.length_cons] at hacc; omega
            have hs : step1 [b] c = none := by unfold step1; rw [if_neg ec]
            rw [rdL_at hc', hst, Option.bind_some, rdL_cons, hs] at ht
            cases ht
      · rintro σ' H' ⟨o3', s1, rfl, hs1, g1⟩
        obtain ⟨acc, hO, hT, hacc⟩ := g1.at_
        rw [stkT_len] at hacc
        refine ⟨_, rfl, _, _, rfl, .inl (SqL.of hO), _, _, rfl, rfl, _, _, rfl, rfl, _, rfl, ite2 (fun e2 => ?_) (fun e2 => ?_)⟩
        · have e3 : (40 + 1 : Int) < (acc.length : Nat) := of_decide_eq_true e2
          refine qf (fun t ht => ?_) _ g1.same
          rw [rdL_at hc', hst, Option.bind_some, rdL_cons, hs1, Option.bind_some, if_pos (by omega)] at ht
          cases ht
        · have e3 : ¬ (40 + 1 : Int) < (acc.length : Nat) := fun z => e2 (decide_eq_true z)
          refine ⟨_, _, s1, rfl, ?_, g1⟩
          rw [take_more hc', rdL_append, hst, Option.bind_some, rdL_cons, hs1, Option.bind_some, if_neg (by omega)]
          rfl
    · rintro σ H1 ⟨o2, o3, st, rfl, hst, g⟩
      rw [ez, List.take_length] at hst
      have hne : st ≠ [] := (rdS_txt _ _ _ (by simp) hb (rdL_rdS _ _ _ hst)).1
      obtain ⟨acc, hO, hT, hacc⟩ := g.at_
      rw [stkT_len] at hacc
      refine ⟨_, rfl, _, _, rfl, .inl (SqL.of hO), _, _, rfl, rfl, _, rfl, ite2 (fun e2 => ?_) (fun e2 => ?_)⟩
      · have e3 : (1 : Int) < (acc.length : Nat) := of_decide_eq_true e2
        refine qf (fun t ht => ?_) _ g.same
        rw [hst] at ht
        injection ht with ht
        rw [ht, List.length_singleton] at hacc
        omega
      · have e3 : ¬ (1 : Int) < (acc.length : Nat) := fun z => e2 (decide_eq_true z)
        obtain ⟨b, rfl⟩ : ∃ b, st = [b] := by
          match st, hne with
          | [b], _ => exact ⟨b, rfl⟩
          | b :: p :: r, _ => rw [List.length_cons, List.length_cons] at hacc; omega
        obtain ⟨r, h1, h2⟩ := Grow.only g
        exact ⟨_, rfl, O, [r], 0, r, rfl, rfl, SqL.of h1, rfl, qt b hst _ _ h2⟩
  · have mo : CMulX 2 300 := mulX (a := 2) (b := 9) (by decide) (by decide) (by decide)
    cases hbad with
    | other ht hk => exact ⟨_, rfl, _, _, _, _, false, rfl, ClsV.ty _, ht, hk, _, rfl, iteT (q _ (Same.refl _))⟩
    | long hz hz2 =>
      refine ⟨_, rfl, _, _, .type "str", .type "str", true, rfl, ClsV.ty _, .base (.str _), kit_ty (by decide +kernel), _, rfl, iteF ?_⟩
      refine ⟨_, rfl, _, rfl, hz2, _, _, rfl, rfl, mo, _, _, rfl, rfl, _, _, rfl, rfl, _, rfl, ?_⟩
      refine ite2 (fun c => q _ (Same.refl _)) (fun c => absurd (decide_eq_true ?_) c)
      omega
    | signs hz hz2 =>
      refine ⟨_, rfl, _, _, .type "str", .type "str", true, rfl, ClsV.ty _, .base (.str _), kit_ty (by decide +kernel), _, rfl, iteF ?_⟩
      have szl : (598 : Nat) ≤ sizeLine := by decide
      refine ⟨_, rfl, _, rfl, by omega, _, _, rfl, rfl, mo, _, _, rfl, rfl, _, _, rfl, rfl, _, rfl, ?_⟩
      refine ite2 (fun c => q _ (Same.refl _)) (fun c => ?_)
      refine ⟨_, rfl, rfl, _, _, rfl, rfl, by omega, ?_⟩
      refine ⟨rfl, _, rfl, ?_⟩
      refine ite2 (fun c => q _ (Same.refl _)) (fun c => absurd ?_ c)
      simpa using hz2
end
section
variable {P : Program} {w : World} {K : PySem.W.Frag} {mg : Str → Option Value} {base : Heap}
/-! ### _law_plain -/
inductive Pln (H : Hp) : Nat → V → Prop
  | int (n : Nat) (i : Int) : Pln H (n + 1) (.int i)
  | lst {n : Nat} {a : Addr} {xs : List V} (h : H a = some (.lst xs)) (hl : xs.length ≤ 1000) (hx : ∀ x, x ∈ xs → Pln H n x) : Pln H (n + 1) (.ref a)
theorem Pln.same {H H' : Hp} {n : Nat} {v : V} (s : Same H H') (h : Pln H n v) : Pln H' n v := by
  induction h with
  | int n i => exact .int n i
  | lst h hl hx ih => exact .lst (s _ _ h) hl ih
def spLawPlain (n : Nat) : Sp := fun vs H Q _ => ∃ v, vs = [v] ∧ Pln H n v ∧ ∀ H', Same H H' → Q (.bl true) H'
theorem ok__law_plain (T : Txt K mg) : ∀ n, FnOk P w K mg base CX0 n T.a__law_plain T.d__law_plain ["_law_thing"] (spLawPlain n)
  | 0 => none_left fun vs H Q E ⟨v, _, h, _⟩ => by cases h
  | n + 1 => by
    have G__law_plain := ok__law_plain T n
    refine T.F__law_plain.ok sc__law_plain (fun vs H Q E h => ?_) (fun cdv A outer s H vs Q E hr h => ?_)
    · obtain ⟨v, rfl, _⟩ := h; rfl
    obtain ⟨v, rfl, hp, q⟩ := h
    have R__law_plain : Room n _ := hr
    refine ⟨_, (pss_cons (ps_if (PW.pt (pw_or (pt_val (pe_callB (r := rIsi K) call_isi (by rfl) T.z_isinstance (by decide +kernel) (pa_cons (pv 0) (pa_cons (pe_bltn (v := .ty "list") (u := .type "list") (by rfl) T.z_list (by decide +kernel) rfl) pa_nil)))) (pw_or1 (pt_val (pe_callB (r := rIsi K) call_isi (by rfl) T.z_isinstance (by decide +kernel) (pa_cons (pv 0) (pa_cons (pe_bltn (v := .ty "tuple") (u := .type "tuple") (by rfl) T.z_tuple (by decide +kernel) rfl) pa_nil))))))) (pss_one (ps_ret (pe_callB (r := rAll K) (cr_all rfl) (by rfl) T.z_all (by decide +kernel) (pa_cons (pe_lc (own := [("_law_one", 1)]) (g := gName 1) (tt := tYes) rfl sc__law_plain.nd (pi_list (pv 0)) (blkOk_by (own := [("_law_one", 1)]) (N := ["_law_thing", "_law_one"]) (sc := defScope s__law_plain) (by decide +kernel)) (fun _ _ _ _ _ => (pg_name (i := 1) sc__law_plain.nd rfl (Or.inl rfl))) (fun _ _ _ _ _ => pts_nil) (fun _ _ _ _ _ => (pe_call G__law_plain R__law_plain rfl T.m__law_plain T.k__law_plain T.b__law_plain .nil pass0 (pa_cons (pv 1) pa_nil)))) pa_nil)))) pss_nil)
      (pss_one (ps_ret (pe_or (pe_cmpR op_isN (pv 0) pe_non (nomark _)) (pe_or (pe_callB (r := rIsi K) call_isi (by rfl) T.z_isinstance (by decide +kernel) (pa_cons (pv 0) (pa_cons (pe_bltn (v := .ty "str") (u := .type "str") (by rfl) T.z_str (by decide +kernel) rfl) pa_nil))) (pe_one (pe_and (pe_callB (r := rIsi K) call_isi (by rfl) T.z_isinstance (by decide +kernel) (pa_cons (pv 0) (pa_cons (pe_bltn (v := .ty "int") (u := .type "int") (by rfl) T.z_int (by decide +kernel) rfl) pa_nil))) (pe_one (pe_not (pe_callB (r := rIsi K) call_isi (by rfl) T.z_isinstance (by decide +kernel) (pa_cons (pv 0) (pa_cons (pe_bltn (v := .ty "bool") (u := .type "bool") (by rfl) T.z_bool (by decide +kernel) rfl) pa_nil)))))))))))), ?_⟩
    cases hp with
    | int n i =>
      refine ⟨_, rfl, _, _, .type "int", _, false, rfl, ClsV.ty _, .base (.int _), kit_ty (by decide +kernel), _, rfl, iteF ?_⟩
      refine ⟨_, rfl, _, _, .type "int", _, false, rfl, ClsV.ty _, .base (.int _), kit_ty (by decide +kernel), _, rfl, iteF ?_⟩
      refine ⟨_, rfl, rfl, false, rfl, iteF ?_⟩
      refine ⟨_, rfl, _, _, .type "int", _, false, rfl, ClsV.ty _, .base (.int _), kit_ty (by decide +kernel), false, rfl, iteF ?_⟩
      refine ⟨_, rfl, _, _, .type "int", _, true, rfl, ClsV.ty _, .base (.int _), kit_ty (by decide +kernel), true, rfl, iteT ?_⟩
      exact ⟨_, rfl, _, _, .type "int", _, false, rfl, ClsV.ty _, .base (.int _), kit_ty (by decide +kernel), false, rfl, q _ (Same.refl _)⟩
    | lst h hl hx =>
      rename_i a xs
      obtain ⟨h1, h2⟩ := list_isi (K := K) h
      refine ⟨_, rfl, _, _, _, _, true, rfl, ClsV.ty _, h1, h2, _, rfl, iteT ?_⟩
      refine iteT ?_
      refine ⟨_, rfl, a, rfl, ⟨xs, SqL.of h⟩, fun D nD => ?_⟩
      refine lc_it (walk_list (xs := xs)) (fun i H' => Fill H H' D ((List.replicate i true).map V.bl)) (Fill.start nD) (fun i H' _ g => SqL.of (g.1 _ _ h)) ?_ ?_
      · rintro i x H1 H2 hi g ⟨rfl, hxi⟩
        refine ⟨rfl, _, rfl, x, rfl, (hx x (List.mem_of_getElem? hxi)).same g.1, fun H3 s3 => ?_⟩
        obtain ⟨k1, k2⟩ := g.more (v := .bl true) s3
        refine ⟨_, k1, ?_, ?_⟩
        · rw [List.length_map, List.length_replicate]
          exact Nat.lt_of_lt_of_le hi (Nat.le_trans hl (by decide))
        · rw [List.replicate_succ', List.map_append]; exact k2
      · intro H1 g
        refine ⟨D, _, rfl, SqL.of g.2.2, ?_⟩
        have e : (List.replicate xs.length true).all id = true := by simp
        rw [e]
        exact q _ g.1
/-! ### _law_no_of: what calls a lambda -/
def TTno (T : Txt K mg) : (XK → Hp → VK → Prop) → Hp → VK → Prop := fun tl H Q =>
  tl (fun cls d H' => ∃ (D : Addr) (b1 b2 : Bool), cls = .ref D ∧ d = none ∧ ExcC K D ∧ PySem.W.exmOne K (.ref D) (.ref T.A_HeadError) = some true ∧ PySem.W.kitOne K (.ref D) (.ref T.A_BadBase) = some b1 ∧ PySem.W.kitOne K (.ref D) (.ref T.A_TooGreat) = some b2 ∧ b1 ≠ b2 ∧
    ∀ H'', Same H' H'' → Q (.str (if b1 = true then Str.ofString "base" else Str.ofString "great")) H'') H (fun _ H' => Q (.str (Str.ofString "")) H')
theorem iteP {c A B : Prop} [Decidable c] (hc : c) (h : A) : if decide c = true then A else B := by rw [if_pos (decide_eq_true hc)]; exact h
theorem dpTwo {H : Hp} {p : Addr} {b1 b2 : Bool} (h : H p = some (.lst [V.bl b1, .bl b2])) : Dp K H (.ref p) (.list [.bool b1, .bool b2]) := .lst (SqL.of h) (.cons (.bl _) (.cons (.bl _) .nil))
theorem noof_gives (T : Txt K mg) {k : Nat} {cdg cdv : Value} {q : Str} {A : Around} {outer : List Env} {s0 : Shared} {H0 : Hp} {E1 : XK} (hr : Room (k + 1) (cxOf CX0 P w K mg base ["_law_number_here"] "_law_promises_right" (defScope s__law_promises_right) T.a__law_promises_right cdv A outer s0 H0 E1).nox.A) :
    LamX.GivesTo (cxOf CX0 P w K mg base ["_law_number_here"] "_law_promises_right" (defScope s__law_promises_right) T.a__law_promises_right cdv A outer s0 H0 E1).nox ["_law_ask", "error", "_law_sorts"] "_law_no_of" (defScope s__law_no_of) T.a__law_no_of cdg (defBody s__law_no_of) "_law_ask" q (TTno T) := by
  intro f c' s H Q tl act hc h
  have hr2 := hr.deeper (PyProof.Rows.envOfC "_law_no_of" (defScope s__law_no_of) s.heap.objs.size T.a__law_no_of cdg)
  have hu65 := units65 hr2
  have mc : ∀ (a : Addr) (oe : Obj) (pn : List (Addr × Obj)), MtR ((cxOf C8.CX0 P w K mg base ["_law_ask", "error", "_law_sorts"] "_law_no_of" (defScope s__law_no_of) T.a__law_no_of cdg (cxOf CX0 P w K mg base ["_law_number_here"] "_law_promises_right" (defScope s__law_promises_right) T.a__law_promises_right cdv A outer s0 H0 E1).nox.A (cxOf CX0 P w K mg base ["_law_number_here"] "_law_promises_right" (defScope s__law_promises_right) T.a__law_promises_right cdv A outer s0 H0 E1).nox.stack s H C8.E0).nox.suite a ((a, oe) :: pn)) "list.count" (rCountD K) := fun a oe pn => mt_countD (X := ((cxOf C8.CX0 P w K mg base ["_law_ask", "error", "_law_sorts"] "_law_no_of" (defScope s__law_no_of) T.a__law_no_of cdg (cxOf CX0 P w K mg base ["_law_number_here"] "_law_promises_right" (defScope s__law_promises_right) T.a__law_promises_right cdv A outer s0 H0 E1).nox.A (cxOf CX0 P w K mg base ["_law_number_here"] "_law_promises_right" (defScope s__law_promises_right) T.a__law_promises_right cdv A outer s0 H0 E1).nox.stack s H C8.E0).nox.suite a ((a, oe) :: pn))) hu65
  have mi : ∀ (a : Addr) (oe : Obj) (pn : List (Addr × Obj)), MtR ((cxOf C8.CX0 P w K mg base ["_law_ask", "error", "_law_sorts"] "_law_no_of" (defScope s__law_no_of) T.a__law_no_of cdg (cxOf CX0 P w K mg base ["_law_number_here"] "_law_promises_right" (defScope s__law_promises_right) T.a__law_promises_right cdv A outer s0 H0 E1).nox.A (cxOf CX0 P w K mg base ["_law_number_here"] "_law_promises_right" (defScope s__law_promises_right) T.a__law_promises_right cdv A outer s0 H0 E1).nox.stack s H C8.E0).nox.suite a ((a, oe) :: pn)) "list.index" (rIndexD K) := fun a oe pn => mt_indexD (X := ((cxOf C8.CX0 P w K mg base ["_law_ask", "error", "_law_sorts"] "_law_no_of" (defScope s__law_no_of) T.a__law_no_of cdg (cxOf CX0 P w K mg base ["_law_number_here"] "_law_promises_right" (defScope s__law_promises_right) T.a__law_promises_right cdv A outer s0 H0 E1).nox.A (cxOf CX0 P w K mg base ["_law_number_here"] "_law_promises_right" (defScope s__law_promises_right) T.a__law_promises_right cdv A outer s0 H0 E1).nox.stack s H C8.E0).nox.suite a ((a, oe) :: pn))) hu65
  refine ⟨_, pss_one (L2.ps_try_as (X := (cxOf C8.CX0 P w K mg base ["_law_ask", "error", "_law_sorts"] "_law_no_of" (defScope s__law_no_of) T.a__law_no_of cdg _ _ s H C8.E0).nox) (i := 1) (c := .ref T.A_HeadError) (Wout := fun _ _ _ _ => False)
      (tb := fun W D σ H => ∃ Ech : XK, (∀ cls d (σ' : St) H', σ'.length = 3 → Ech cls d H' → W cls d σ' H') ∧ σ[0]? = some (some (.ref f)) ∧ H c' = some (LamX.CodeO c' q) ∧ tl Ech H (fun _ H' => D.rt (.str (Str.ofString "")) H'))
      rfl rfl sc__law_no_of.nd rfl rfl ⟨rfl, by decide, .inl T.g_HeadError⟩ LamX.takes0 (fun W pn xe tk _ => ⟨fun pins s' σ H' D I h' => by
        obtain ⟨Ech, hW, h1, h2, h3⟩ := h'
        exact (pss_cons (ps_expr (act _ pn xe Ech _ _ (takes_len tk) fun cls d σ' H' e hl => hW cls d σ' H' hl e)) (pss_one (ps_ret pe_str))).run pins s' σ H' D I ⟨h1, h2, h3⟩⟩)
      (ts := fun a cls d => tSeq (tAsg (tLst (tCons (tCB (rIsEx K a cls d) (tCons (tVar 1) (tCons (tC (.ref T.A_BadBase)) tNil))) (tCons (tCB (rIsEx K a cls d) (tCons (tVar 1) (tCons (tC (.ref T.A_TooGreat)) tNil))) tNil))) (gName 2))
        (tRet (tIf (tTest (tOp rEq (tBM K "list" (rCountD K) (tVar 2) (tCons (tC (.bl true)) tNil)) (tC (.int 1)))) (tOp (rIxL K) (tLst (tCons (tC (.str (Str.ofString "base"))) (tCons (tC (.str (Str.ofString "great"))) tNil))) (tBM K "list" (rIndexD K) (tVar 2) (tCons (tC (.bl true)) tNil))) (tC (.str (Str.ofString "other"))))))
      (fun a oe cls d pn hz hf => by
        refine pss_cons (ps_set (i := 2) sc__law_no_of.nd rfl (Or.inl rfl) (pe_lst (pa_cons (pe_callB (r := rIsEx K a cls d) (call_isEc hz hf) (by rfl) T.z_isinstance (by decide +kernel) (pa_cons (pv 1) (pa_cons (pe_glob (v := .ref T.A_BadBase) rfl T.g_BadBase rfl) pa_nil))) (pa_cons (pe_callB (r := rIsEx K a cls d) (call_isEc hz hf) (by rfl) T.z_isinstance (by decide +kernel) (pa_cons (pv 1) (pa_cons (pe_glob (v := .ref T.A_TooGreat) rfl T.g_TooGreat rfl) pa_nil))) pa_nil)))) ?_
        refine pss_one (ps_ret (pe_ifExp (pt_cmpR op_eq ?_ pe_int (nomark _)) ?_ pe_str))
        · refine pe_bm PySem.F.plainAttrs_list PySem.F.slot_list_count PySem.F.type_list_count (mc a oe pn) (pv 2) (pa_cons pe_bl pa_nil)
        · refine pe_ix (r := rIxL K) ix_list (pe_lst (pa_cons pe_str (pa_cons pe_str pa_nil))) ?_ (fun _ _ => rfl)
          refine pe_bm PySem.F.plainAttrs_list PySem.F.slot_list_index PySem.F.type_list_index (mi a oe pn) (pv 2) (pa_cons pe_bl pa_nil))), ?_⟩
  refine ⟨_, ?_, rfl, hc, h⟩
  rintro cls d σ' H' hl ⟨D, b1, b2, rfl, rfl, ex, hx, k1, k2, ne, q'⟩
  obtain ⟨o0, o1, o2, rfl⟩ : ∃ o0 o1 o2, σ' = [o0, o1, o2] := by
    match σ', hl with
    | [o0, o1, o2], _ => exact ⟨o0, o1, o2, rfl⟩
  refine ⟨true, hx, fun _ a na => ?_, fun z => by cases z⟩
  refine ⟨_, rfl, D, _, _, b1, rfl, rfl, ex, rfl, (fun _ h => h), k1, ?_⟩
  refine ⟨_, rfl, D, _, _, b2, rfl, rfl, ex, rfl, (fun _ h => h), k2, ?_⟩
  refine ⟨(by show 2 ≤ sizeLine; decide), fun p np => ?_⟩
  have sp := same_new np (.lst [V.bl b1, .bl b2])
  have up : upd H' p (.lst [V.bl b1, .bl b2]) p = some (.lst [V.bl b1, .bl b2]) := upd_same
  generalize upd H' p (.lst [V.bl b1, .bl b2]) = H1 at sp up ⊢
  cases b1 with
  | true =>
    cases b2 with
    | true => exact absurd rfl ne
    | false =>
      refine ⟨_, rfl, .inl ⟨rfl, _, SqL.of up⟩, p, .bl true, .bool true, _, rfl, rfl, dpTwo up, .bl true, by decide +kernel, by decide +kernel, rfl, _, rfl, iteP (by decide +kernel) ?_⟩
      refine ⟨(by show 2 ≤ sizeLine; decide), fun p2 np2 => ?_⟩
      have s2 := same_new np2 (.lst [V.str (Str.ofString "base"), .str (Str.ofString "great")])
      have up2 := s2 _ _ up
      refine ⟨_, rfl, .inl ⟨rfl, _, SqL.of up2⟩, p, .bl true, .bool true, _, 0, .bool true, rfl, rfl, dpTwo up2, .bl true, by decide +kernel, by decide +kernel, rfl, by decide +kernel, (fun m z hm => absurd hm (Nat.not_lt_zero _)), p2, _, _, _, rfl, rfl, SqL.of upd_same, atI_nat rfl, q' _ (sp.trans s2)⟩
  | false =>
    cases b2 with
    | false => exact absurd rfl ne
    | true =>
      refine ⟨_, rfl, .inl ⟨rfl, _, SqL.of up⟩, p, .bl true, .bool true, _, rfl, rfl, dpTwo up, .bl true, by decide +kernel, by decide +kernel, rfl, _, rfl, iteP (by decide +kernel) ?_⟩
      refine ⟨(by show 2 ≤ sizeLine; decide), fun p2 np2 => ?_⟩
      have s2 := same_new np2 (.lst [V.str (Str.ofString "base"), .str (Str.ofString "great")])
      have up2 := s2 _ _ up
      refine ⟨_, rfl, .inl ⟨rfl, _, SqL.of up2⟩, p, .bl true, .bool true, _, 1, .bool true, rfl, rfl, dpTwo up2, .bl true, by decide +kernel, by decide +kernel, rfl, by decide +kernel, (fun m z hm hz => by
        have e : m = 0 := by omega
        subst e
        cases hz
        decide +kernel), p2, _, _, _, rfl, rfl, SqL.of upd_same, atI_nat rfl, q' _ (sp.trans s2)⟩
end
section
variable {P : Program} {w : World} {K : PySem.W.Frag} {mg : Str → Option Value} {base : Heap}
/-! ### _law_promises_right (printed by gen06.py) -/
def lamT (T : Txt K mg) : List (Addr × Str) := [(T.P__law_promises_right, (PyProof.Rows.envOfC "_law_promises_right" (defScope s__law_promises_right) 0 0 .none).qual ++ "<lambda>")]
def spPromises (T : Txt K mg) : Sp := fun vs H Q _ => vs = [] ∧ LamX.Tabs (lamT T) H ∧ ∀ H', LamX.ExtN H H' → Q (.bl true) H'
theorem brk_dec2 {l : List Nat} (h : l.all (fun c => c == 40 || c == 41) = true) : brk l := fun c hc => by
  have := List.all_eq_true.mp h c hc
  simpa using this
theorem small (n : Nat) (h : n < 1024) : Bits (n : Int) 2200000 := Bits.mono (a := 10) (by show (n : Int).natAbs < 1024; omega) (by decide)
theorem tr_li {H : Hp} {a : Addr} {vs : List V} {ts : List Tt} (h : H a = some (.lst vs)) (k : TreesAt H vs ts) : TreeAt H (.ref a) (.mk ts) := by rw [treeAt_mk]; exact ⟨a, vs, rfl, h, k⟩
theorem trs_nil {H : Hp} : TreesAt H [] [] := by rw [treesAt_nil]
theorem told_flat {t : Tt} (h : told t = t) (n : Nat) : told (.mk (List.replicate n t)) = .mk (List.replicate n t) := by
  rw [told_mk]
  refine congrArg Tt.mk (sd_unique _ _ (toldL_sd _ _ List.Pairwise.nil) ?_ ?_)
  · refine List.pairwise_iff_getElem.mpr fun i j hi hj _ => ?_
    rw [List.getElem_replicate, List.getElem_replicate]
    exact ge_refl t
  · refine (toldL_perm _ []).trans ?_
    rw [List.nil_append, List.map_replicate, h]
theorem ok__law_promises_right (T : Txt K mg) (TB : LamX.TabB base mg T.c__law_promises_right T.P__law_promises_right) : FnOk P w K mg base CX0 47 T.a__law_promises_right T.d__law_promises_right [] (spPromises T) := by
  have G_told := ok_told (P := P) (w := w) (base := base) T
  have G_compare := ok_compare (P := P) (w := w) (base := base) T
  have G_together := ok_together (P := P) (w := w) (base := base) T
  have G_behind := ok_behind (P := P) (w := w) (base := base) T
  have G_heads := ok_heads (P := P) (w := w) (base := base) T
  have G_cut := ok_cut (P := P) (w := w) (base := base) T
  have G_written := ok_written (P := P) (w := w) (base := base) T
  have G_number_of := ok_number_of (P := P) (w := w) (base := base) T
  have G_stepped := ok_stepped (P := P) (w := w) (base := base) T
  have G_text := ok_text (P := P) (w := w) (base := base) T
  have G_read := ok_read (P := P) (w := w) (base := base) T
  refine okC T.F__law_promises_right T.hc__law_promises_right sc__law_promises_right (fun vs H Q E h => ?_) (fun A outer s H vs Q E hr h => ?_)
  · obtain ⟨rfl, _⟩ := h; rfl
  obtain ⟨rfl, hT, q⟩ := h
  obtain ⟨oc, od, kV, doc, pm, an, cdv2, ct, osl, hfd, lk_no, hc_no⟩ := T.F__law_no_of.ex
  have hb_no := T.b__law_no_of
  rw [hfd] at lk_no hb_no
  have hrA : Room 46 _ := hr
  have R_told : Room 44 _ := hr.mono (by omega)
  have R_compare : Room 44 _ := hr.mono (by omega)
  have R_together : Room 44 _ := hr.mono (by omega)
  have R_behind : Room 44 _ := hr.mono (by omega)
  have R_heads : Room 44 _ := hr.mono (by omega)
  have R_cut : Room 44 _ := hr.mono (by omega)
  have R_written : Room 7 _ := hr.mono (by omega)
  have R_number_of : Room 44 _ := hr.mono (by omega)
  have R_stepped : Room 42 _ := hr.mono (by omega)
  have R_text : Room 44 _ := hr.mono (by omega)
  have R_read : Room 2 _ := hr.mono (by omega)
  have hu64 := hr.units
  refine ⟨_, (pss_cons (ps_if (PW.pt (pw_or (pt_cmpR (r := rNeD K) (op_neD hu64) (pe_call G_told R_told rfl T.m_told T.k_told T.b_told .nil passLN (pa_cons (pe_lst (pa_cons (pe_lst pa_nil) (pa_cons (pe_lst (pa_cons (pe_lst pa_nil) pa_nil)) pa_nil))) pa_nil)) (pe_lst (pa_cons (pe_lst (pa_cons (pe_lst pa_nil) pa_nil)) (pa_cons (pe_lst pa_nil) pa_nil))) (nomark _)) (pw_or1 (pt_cmpR op_ne (pe_call G_compare R_compare rfl T.m_compare T.k_compare T.b_compare .nil passLN (pa_cons (pe_lst (pa_cons (pe_lst pa_nil) (pa_cons (pe_lst (pa_cons (pe_lst pa_nil) pa_nil)) pa_nil))) (pa_cons (pe_lst (pa_cons (pe_lst (pa_cons (pe_lst pa_nil) pa_nil)) (pa_cons (pe_lst pa_nil) pa_nil))) pa_nil))) pe_int (nomark _))))) (pss_one (ps_ret pe_bl)) pss_nil)
      (pss_cons (ps_if (PW.pt (pw_or (pt_cmpR op_ne (pe_call G_compare R_compare rfl T.m_compare T.k_compare T.b_compare .nil passLN (pa_cons (pe_lst (pa_cons (pe_lst (pa_cons (pe_lst pa_nil) pa_nil)) pa_nil)) (pa_cons (pe_lst (pa_cons (pe_lst pa_nil) (pa_cons (pe_lst pa_nil) (pa_cons (pe_lst pa_nil) pa_nil)))) pa_nil))) pe_int (nomark _)) (pw_or1 (pt_cmpR op_ne (pe_call G_compare R_compare rfl T.m_compare T.k_compare T.b_compare .nil passLN (pa_cons (pe_lst pa_nil) (pa_cons (pe_lst (pa_cons (pe_lst pa_nil) pa_nil)) pa_nil))) (pe_un un_neg pe_int) (nomark _))))) (pss_one (ps_ret pe_bl)) pss_nil)
      (pss_cons (ps_if (PW.pt (pw_or (pt_cmpR (r := rNeD K) (op_neD hu64) (pe_call G_together R_together rfl T.m_together T.k_together T.b_together .nil passLN (pa_cons (pe_lst (pa_cons (pe_lst pa_nil) pa_nil)) (pa_cons (pe_lst (pa_cons (pe_lst (pa_cons (pe_lst pa_nil) pa_nil)) pa_nil)) pa_nil))) (pe_lst (pa_cons (pe_lst (pa_cons (pe_lst pa_nil) pa_nil)) (pa_cons (pe_lst pa_nil) pa_nil))) (nomark _)) (pw_or1 (pt_cmpR (r := rNeD K) (op_neD hu64) (pe_call G_behind R_behind rfl T.m_behind T.k_behind T.b_behind .nil passLN (pa_cons (pe_lst (pa_cons (pe_lst (pa_cons (pe_lst pa_nil) pa_nil)) (pa_cons (pe_lst pa_nil) pa_nil))) (pa_cons (pe_lst (pa_cons (pe_lst (pa_cons (pe_lst pa_nil) pa_nil)) pa_nil)) pa_nil))) (pe_lst (pa_cons (pe_lst (pa_cons (pe_lst pa_nil) pa_nil)) (pa_cons (pe_lst (pa_cons (pe_lst pa_nil) pa_nil)) pa_nil))) (nomark _))))) (pss_one (ps_ret pe_bl)) pss_nil)
      (pss_cons (ps_if (pt_cmpR (r := rNeD K) (op_neD hu64) (pe_call G_behind R_behind rfl T.m_behind T.k_behind T.b_behind .nil passLN (pa_cons (pe_lst (pa_cons (pe_lst pa_nil) (pa_cons (pe_lst (pa_cons (pe_lst pa_nil) pa_nil)) pa_nil))) (pa_cons (pe_lst pa_nil) pa_nil))) (pe_lst (pa_cons (pe_lst (pa_cons (pe_lst pa_nil) pa_nil)) (pa_cons (pe_lst pa_nil) pa_nil))) (nomark _)) (pss_one (ps_ret pe_bl)) pss_nil)
      (pss_cons (ps_if (PW.pt (pw_or (pt_cmpR (r := rNeD K) (op_neD hu64) (pe_call G_behind R_behind rfl T.m_behind T.k_behind T.b_behind .nil passLN (pa_cons (pe_lst (pa_cons (pe_lst pa_nil) pa_nil)) (pa_cons (pe_lst (pa_cons (pe_lst pa_nil) pa_nil)) pa_nil))) (pe_lst (pa_cons (pe_lst pa_nil) (pa_cons (pe_lst pa_nil) pa_nil))) (nomark _)) (pw_or (pt_cmpR op_ne (pe_call G_compare R_compare rfl T.m_compare T.k_compare T.b_compare .nil passLN (pa_cons (pe_lst (pa_cons (pe_lst pa_nil) (pa_cons (pe_lst pa_nil) pa_nil))) (pa_cons (pe_lst (pa_cons (pe_lst pa_nil) pa_nil)) pa_nil))) pe_int (nomark _)) (pw_or1 (pt_cmpR (r := rNeD K) (op_neD hu64) (pe_call G_heads R_heads rfl T.m_heads T.k_heads T.b_heads .nil passLN (pa_cons (pe_lst pa_nil) pa_nil)) (pe_lst pa_nil) (nomark _)))))) (pss_one (ps_ret pe_bl)) pss_nil)
      (pss_cons (ps_if (pt_cmpR (r := rNeD K) (op_neD hu64) (pe_call G_heads R_heads rfl T.m_heads T.k_heads T.b_heads .nil passLN (pa_cons (pe_lst (pa_cons (pe_lst pa_nil) (pa_cons (pe_lst (pa_cons (pe_lst pa_nil) pa_nil)) pa_nil))) pa_nil)) (pe_lst (pa_cons (pe_lst (pa_cons pe_int pa_nil)) (pa_cons (pe_lst (pa_cons pe_int (pa_cons pe_int pa_nil))) pa_nil))) (nomark _)) (pss_one (ps_ret pe_bl)) pss_nil)
      (pss_cons (ps_if (PW.pt (pw_or (pt_cmpR (r := rNeD K) (op_neD hu64) (pe_call G_cut R_cut rfl T.m_cut T.k_cut T.b_cut .nil passLN (pa_cons (pe_lst (pa_cons (pe_lst pa_nil) pa_nil)) (pa_cons (pe_lst (pa_cons pe_int pa_nil)) (pa_cons pe_int pa_nil)))) (pe_lst pa_nil) (nomark _)) (pw_or1 (pt_cmpR (r := rNeD K) (op_neD hu64) (pe_call G_cut R_cut rfl T.m_cut T.k_cut T.b_cut .nil passLN (pa_cons (pe_lst (pa_cons (pe_lst (pa_cons (pe_lst pa_nil) (pa_cons (pe_lst pa_nil) pa_nil))) pa_nil)) (pa_cons (pe_lst (pa_cons pe_int (pa_cons pe_int pa_nil))) (pa_cons pe_int pa_nil)))) (pe_lst (pa_cons (pe_lst (pa_cons (pe_lst pa_nil) pa_nil)) (pa_cons (pe_lst (pa_cons (pe_lst pa_nil) pa_nil)) (pa_cons (pe_lst (pa_cons (pe_lst pa_nil) pa_nil)) pa_nil)))) (nomark _))))) (pss_one (ps_ret pe_bl)) pss_nil)
      (pss_cons (ps_if (pt_cmpR (r := rNeD K) (op_neD hu64) (pe_call G_cut R_cut rfl T.m_cut T.k_cut T.b_cut .nil passLN (pa_cons (pe_lst (pa_cons (pe_lst (pa_cons (pe_lst pa_nil) (pa_cons (pe_lst pa_nil) pa_nil))) pa_nil)) (pa_cons (pe_lst (pa_cons pe_int (pa_cons pe_int pa_nil))) (pa_cons pe_int pa_nil)))) (pe_lst (pa_cons (pe_lst (pa_cons (pe_lst pa_nil) pa_nil)) pa_nil)) (nomark _)) (pss_one (ps_ret pe_bl)) pss_nil)
      (pss_cons (ps_if (PW.pt (pw_or (pt_cmpR (r := rNeD K) (op_neD hu64) (pe_call G_cut R_cut rfl T.m_cut T.k_cut T.b_cut .nil passLN (pa_cons (pe_lst (pa_cons (pe_lst (pa_cons (pe_lst (pa_cons (pe_lst pa_nil) pa_nil)) pa_nil)) pa_nil)) (pa_cons (pe_lst (pa_cons pe_int (pa_cons pe_int (pa_cons pe_int pa_nil)))) (pa_cons pe_int pa_nil)))) (pe_lst (pa_cons (pe_lst (pa_cons (pe_lst pa_nil) (pa_cons (pe_lst pa_nil) (pa_cons (pe_lst pa_nil) (pa_cons (pe_lst pa_nil) pa_nil))))) pa_nil)) (nomark _)) (pw_or1 (pt_cmpR (r := rNeD K) (op_neD hu64) (pe_call G_cut R_cut rfl T.m_cut T.k_cut T.b_cut .nil passLN (pa_cons (pe_lst (pa_cons (pe_lst pa_nil) (pa_cons (pe_lst (pa_cons (pe_lst pa_nil) pa_nil)) pa_nil))) (pa_cons (pe_lst (pa_cons pe_int (pa_cons pe_int pa_nil))) (pa_cons pe_int pa_nil)))) (pe_lst (pa_cons (pe_lst pa_nil) (pa_cons (pe_lst pa_nil) (pa_cons (pe_lst pa_nil) pa_nil)))) (nomark _))))) (pss_one (ps_ret pe_bl)) pss_nil)
      (pss_cons (ps_if (pt_cmpR (r := rNeD K) (op_neD hu64) (pe_call G_cut R_cut rfl T.m_cut T.k_cut T.b_cut .nil passLN (pa_cons (pe_lst (pa_cons (pe_lst pa_nil) (pa_cons (pe_lst (pa_cons (pe_lst pa_nil) pa_nil)) pa_nil))) (pa_cons (pe_lst (pa_cons pe_int pa_nil)) (pa_cons pe_int pa_nil)))) (pe_lst (pa_cons (pe_lst (pa_cons (pe_lst pa_nil) pa_nil)) pa_nil)) (nomark _)) (pss_one (ps_ret pe_bl)) pss_nil)
      (pss_cons (ps_if (PW.pt (pw_or (pt_cmpR op_ne (LamX.pe_lamcall (k := 44) (T := lamT T) (by rfl) T.m__law_no_of T.k__law_no_of lk_no hc_no hb_no sc__law_no_of rfl (Or.inl rfl) (noof_gives T hrA) TB rfl (List.mem_singleton.mpr rfl) (fun p hp _ => by rw [List.mem_singleton.mp hp]; rfl) hrA (LamX.lamS_by (by show LamX.lamSB (defScope s__law_promises_right) _ = true; decide +kernel)) rfl (fun _ _ _ _ _ => rfl) (fun A' outer' s' H' E' f' c' hr' => (pe_call G_cut (hr'.mono (by omega)) rfl T.m_cut T.k_cut T.b_cut .nil lamPass (pa_cons (pe_lst (pa_cons (pe_lst (pa_cons (pe_lst pa_nil) (pa_cons (pe_lst pa_nil) pa_nil))) pa_nil)) (pa_cons (pe_lst (pa_cons pe_int (pa_cons pe_int pa_nil))) (pa_cons pe_int pa_nil)))))) pe_str (nomark _)) (pw_or1 (pt_cmpR op_ne (pe_callB (r := rLenS K) call_len_seqK rfl T.z_len PySem.boot_len (pa_cons (pe_call G_cut R_cut rfl T.m_cut T.k_cut T.b_cut .nil passLN (pa_cons (pe_lst (pa_cons (pe_lst (pa_cons (pe_lst pa_nil) (pa_cons (pe_lst pa_nil) pa_nil))) pa_nil)) (pa_cons (pe_lst (pa_cons pe_int (pa_cons pe_int pa_nil))) (pa_cons pe_int pa_nil)))) pa_nil)) pe_int (nomark _))))) (pss_one (ps_ret pe_bl)) pss_nil)
      (pss_cons (ps_if (pt_cmpR (r := rNeD K) (op_neD hu64) (pe_lc (own := [("_law_number_here", 0)]) (g := gName 0) (tt := tYes) rfl sc__law_promises_right.nd (pi_range1 (by rfl) T.z_range (pa_cons pe_int pa_nil)) (blkOk_by (own := [("_law_number_here", 0)]) (N := ["_law_number_here"]) (sc := defScope s__law_promises_right) (by decide +kernel)) (fun _ _ _ _ _ => (pg_name (i := 0) sc__law_promises_right.nd rfl (Or.inl rfl))) (fun _ _ _ _ _ => pts_nil) (fun _ _ _ _ _ => (pe_call G_written R_written rfl T.m_written T.k_written T.b_written .nil passLN (pa_cons (pv 0) (pa_cons pe_int pa_nil))))) (pe_lst (pa_cons (pe_lst pa_nil) (pa_cons (pe_lst (pa_cons (pe_lst pa_nil) pa_nil)) (pa_cons (pe_lst (pa_cons (pe_lst (pa_cons (pe_lst pa_nil) pa_nil)) pa_nil)) (pa_cons (pe_lst (pa_cons (pe_lst (pa_cons (pe_lst pa_nil) pa_nil)) (pa_cons (pe_lst pa_nil) pa_nil))) (pa_cons (pe_lst (pa_cons (pe_lst (pa_cons (pe_lst (pa_cons (pe_lst pa_nil) pa_nil)) pa_nil)) pa_nil)) pa_nil)))))) (nomark _)) (pss_one (ps_ret pe_bl)) pss_nil)
      (pss_cons (ps_if (pt_cmpR (r := rNeD K) (op_neD hu64) (pe_call G_written R_written rfl T.m_written T.k_written T.b_written .nil passLN (pa_cons pe_int (pa_cons (pe_op op_pow pe_int pe_int) pa_nil))) (pe_lst (pa_cons (pe_lst pa_nil) (pa_cons (pe_lst pa_nil) (pa_cons (pe_lst pa_nil) pa_nil)))) (nomark _)) (pss_one (ps_ret pe_bl)) pss_nil)
      (pss_cons (ps_if (PW.pt (pw_or (pt_cmpR op_ne (pe_call G_number_of R_number_of rfl T.m_number_of T.k_number_of T.b_number_of .nil passLN (pa_cons (pe_lst (pa_cons (pe_lst pa_nil) (pa_cons (pe_lst (pa_cons (pe_lst pa_nil) pa_nil)) pa_nil))) (pa_cons pe_int pa_nil))) pe_int (nomark _)) (pw_or1 (pt_cmpR op_ne (pe_call G_number_of R_number_of rfl T.m_number_of T.k_number_of T.b_number_of .nil passLN (pa_cons (pe_lst (pa_cons (pe_lst pa_nil) (pa_cons (pe_lst pa_nil) pa_nil))) (pa_cons pe_int pa_nil))) pe_int (nomark _))))) (pss_one (ps_ret pe_bl)) pss_nil)
      (pss_cons (ps_if (PW.pt (pw_or (pt_cmpR op_ne (LamX.pe_lamcall (k := 44) (T := lamT T) (by rfl) T.m__law_no_of T.k__law_no_of lk_no hc_no hb_no sc__law_no_of rfl (Or.inl rfl) (noof_gives T hrA) TB rfl (List.mem_singleton.mpr rfl) (fun p hp _ => by rw [List.mem_singleton.mp hp]; rfl) hrA (LamX.lamS_by (by show LamX.lamSB (defScope s__law_promises_right) _ = true; decide +kernel)) rfl (fun _ _ _ _ _ => rfl) (fun A' outer' s' H' E' f' c' hr' => (pe_call G_number_of (hr'.mono (by omega)) rfl T.m_number_of T.k_number_of T.b_number_of .nil lamPass (pa_cons (pe_lst (pa_cons (pe_lst pa_nil) (pa_cons (pe_lst pa_nil) pa_nil))) (pa_cons pe_int pa_nil))))) pe_str (nomark _)) (pw_or1 (pt_cmpR op_ne (pe_call G_number_of R_number_of rfl T.m_number_of T.k_number_of T.b_number_of .nil passLN (pa_cons (pe_lst pa_nil) (pa_cons pe_int pa_nil))) pe_int (nomark _))))) (pss_one (ps_ret pe_bl)) pss_nil)
      (pss_cons (ps_if (PW.pt (pw_or (pt_cmpR (r := rNeD K) (op_neD hu64) (pe_lc (own := [("_law_number_here", 0)]) (g := gName 0) (tt := tYes) rfl sc__law_promises_right.nd (pi_range1 (by rfl) T.z_range (pa_cons pe_int pa_nil)) (blkOk_by (own := [("_law_number_here", 0)]) (N := ["_law_number_here"]) (sc := defScope s__law_promises_right) (by decide +kernel)) (fun _ _ _ _ _ => (pg_name (i := 0) sc__law_promises_right.nd rfl (Or.inl rfl))) (fun _ _ _ _ _ => pts_nil) (fun _ _ _ _ _ => (pe_call G_stepped R_stepped rfl T.m_stepped T.k_stepped T.b_stepped .nil passLN (pa_cons (pv 0) (pa_cons pe_int pa_nil))))) (pe_lst (pa_cons pe_int (pa_cons pe_int (pa_cons pe_int (pa_cons pe_int (pa_cons pe_int pa_nil)))))) (nomark _)) (pw_or (pt_cmpR op_ne (pe_call G_stepped R_stepped rfl T.m_stepped T.k_stepped T.b_stepped .nil passLN (pa_cons pe_int (pa_cons pe_int pa_nil))) pe_int (nomark _)) (pw_or1 (pt_cmpR op_ne (pe_call G_stepped R_stepped rfl T.m_stepped T.k_stepped T.b_stepped .nil passLN (pa_cons pe_int (pa_cons pe_int pa_nil))) pe_int (nomark _)))))) (pss_one (ps_ret pe_bl)) pss_nil)
      (pss_cons (ps_if (PW.pt (pw_or (pt_cmpR op_ne (pe_call G_text R_text rfl T.m_text T.k_text T.b_text .nil passLN (pa_cons (pe_lst pa_nil) pa_nil)) pe_str (nomark _)) (pw_or (pt_cmpR op_ne (pe_call G_text R_text rfl T.m_text T.k_text T.b_text .nil passLN (pa_cons (pe_lst (pa_cons (pe_lst pa_nil) (pa_cons (pe_lst (pa_cons (pe_lst pa_nil) pa_nil)) pa_nil))) pa_nil)) pe_str (nomark _)) (pw_or (pt_cmpR (r := rNeD K) (op_neD hu64) (pe_call G_read R_read rfl T.m_read T.k_read T.b_read .nil passLN (pa_cons pe_str pa_nil)) (pe_lst (pa_cons (pe_lst pa_nil) (pa_cons (pe_lst (pa_cons (pe_lst pa_nil) pa_nil)) pa_nil))) (nomark _)) (pw_or1 (pt_cmpR (r := rNeD K) (op_neD hu64) (pe_call G_read R_read rfl T.m_read T.k_read T.b_read .nil passLN (pa_cons pe_str pa_nil)) (pe_lst pa_nil) (nomark _))))))) (pss_one (ps_ret pe_bl)) pss_nil)
      (pss_one (ps_ret (pe_cmpR (r := rEqD K) (op_eqD hu64) (pe_call G_read R_read rfl T.m_read T.k_read T.b_read .nil passLN (pa_cons (pe_call G_text R_text rfl T.m_text T.k_text T.b_text .nil passLN (pa_cons (pe_call G_told R_told rfl T.m_told T.k_told T.b_told .nil passLN (pa_cons (pe_lst (pa_cons (pe_lst pa_nil) (pa_cons (pe_lst (pa_cons (pe_lst pa_nil) (pa_cons (pe_lst (pa_cons (pe_lst pa_nil) pa_nil)) pa_nil))) pa_nil))) pa_nil)) pa_nil)) pa_nil)) (pe_call G_told R_told rfl T.m_told T.k_told T.b_told .nil passLN (pa_cons (pe_lst (pa_cons (pe_lst pa_nil) (pa_cons (pe_lst (pa_cons (pe_lst pa_nil) (pa_cons (pe_lst (pa_cons (pe_lst pa_nil) pa_nil)) pa_nil))) pa_nil))) pa_nil)) (nomark _))))))))))))))))))))), ?_⟩
  have z0 := Same.refl H
  have xe0 := LamX.ExtN.refl H
  -- told([[], [[]]]) != [[[]], []]
  refine ⟨(by show 0 ≤ sizeLine; decide), fun p1 n_p1 => ?_⟩
  have s_p1 := same_new n_p1 (.lst [])
  have u_p1 : upd H p1 (.lst []) p1 = some (.lst []) := upd_same
  generalize upd H p1 (.lst []) = G2 at s_p1 u_p1 ⊢
  have z3 := z0.trans s_p1
  have t_p1 : TreeAt G2 (.ref p1) (.mk []) := tr_li u_p1 trs_nil
  refine ⟨(by show 0 ≤ sizeLine; decide), fun p4 n_p4 => ?_⟩
  have s_p4 := same_new n_p4 (.lst [])
  have u_p4 : upd G2 p4 (.lst []) p4 = some (.lst []) := upd_same
  generalize upd G2 p4 (.lst []) = G5 at s_p4 u_p4 ⊢
  have z6 := z3.trans s_p4
  replace t_p1 := TreeAt.same (s_p4) _ t_p1
  have t_p4 : TreeAt G5 (.ref p4) (.mk []) := tr_li u_p4 trs_nil
  refine ⟨(by show 1 ≤ sizeLine; decide), fun p7 n_p7 => ?_⟩
  have s_p7 := same_new n_p7 (.lst [V.ref p4])
  have u_p7 : upd G5 p7 (.lst [V.ref p4]) p7 = some (.lst [V.ref p4]) := upd_same
  generalize upd G5 p7 (.lst [V.ref p4]) = G8 at s_p7 u_p7 ⊢
  have z9 := z6.trans s_p7
  replace t_p1 := TreeAt.same (s_p7) _ t_p1
  replace t_p4 := TreeAt.same (s_p7) _ t_p4
  have t_p7 : TreeAt G8 (.ref p7) (.mk [(.mk [])]) := tr_li u_p7 (treesAt_c t_p4 trs_nil)
  refine ⟨(by show 2 ≤ sizeLine; decide), fun p10 n_p10 => ?_⟩
  have s_p10 := same_new n_p10 (.lst [V.ref p1, .ref p7])
  have u_p10 : upd G8 p10 (.lst [V.ref p1, .ref p7]) p10 = some (.lst [V.ref p1, .ref p7]) := upd_same
  generalize upd G8 p10 (.lst [V.ref p1, .ref p7]) = G11 at s_p10 u_p10 ⊢
  have z12 := z9.trans s_p10
  replace t_p1 := TreeAt.same (s_p10) _ t_p1
  replace t_p7 := TreeAt.same (s_p10) _ t_p7
  have t_p10 : TreeAt G11 (.ref p10) (.mk [(.mk []), (.mk [(.mk [])])]) := tr_li u_p10 (treesAt_c t_p1 (treesAt_c t_p7 trs_nil))
  refine ⟨_, rfl, .inl ⟨_, t_p10, ⟨by decide +kernel, by decide +kernel⟩, fun G13 r14 n_r14 => ?_⟩⟩
  have z15 := z12.trans n_r14.1
  replace t_p10 := TreeAt.same (n_r14.1) _ t_p10
  have t_r14 := n_r14.at_
  refine ⟨(by show 0 ≤ sizeLine; decide), fun p16 n_p16 => ?_⟩
  have s_p16 := same_new n_p16 (.lst [])
  have u_p16 : upd G13 p16 (.lst []) p16 = some (.lst []) := upd_same
  generalize upd G13 p16 (.lst []) = G17 at s_p16 u_p16 ⊢
  have z18 := z15.trans s_p16
  replace t_p10 := TreeAt.same (s_p16) _ t_p10
  replace t_r14 := TreeAt.same (s_p16) _ t_r14
  have t_p16 : TreeAt G17 (.ref p16) (.mk []) := tr_li u_p16 trs_nil
  refine ⟨(by show 1 ≤ sizeLine; decide), fun p19 n_p19 => ?_⟩
  have s_p19 := same_new n_p19 (.lst [V.ref p16])
  have u_p19 : upd G17 p19 (.lst [V.ref p16]) p19 = some (.lst [V.ref p16]) := upd_same
  generalize upd G17 p19 (.lst [V.ref p16]) = G20 at s_p19 u_p19 ⊢
  have z21 := z18.trans s_p19
  replace t_p10 := TreeAt.same (s_p19) _ t_p10
  replace t_r14 := TreeAt.same (s_p19) _ t_r14
  replace t_p16 := TreeAt.same (s_p19) _ t_p16
  have t_p19 : TreeAt G20 (.ref p19) (.mk [(.mk [])]) := tr_li u_p19 (treesAt_c t_p16 trs_nil)
  refine ⟨(by show 0 ≤ sizeLine; decide), fun p22 n_p22 => ?_⟩
  have s_p22 := same_new n_p22 (.lst [])
  have u_p22 : upd G20 p22 (.lst []) p22 = some (.lst []) := upd_same
  generalize upd G20 p22 (.lst []) = G23 at s_p22 u_p22 ⊢
  have z24 := z21.trans s_p22
  replace t_p10 := TreeAt.same (s_p22) _ t_p10
  replace t_r14 := TreeAt.same (s_p22) _ t_r14
  replace t_p19 := TreeAt.same (s_p22) _ t_p19
  have t_p22 : TreeAt G23 (.ref p22) (.mk []) := tr_li u_p22 trs_nil
  refine ⟨(by show 2 ≤ sizeLine; decide), fun p25 n_p25 => ?_⟩
  have s_p25 := same_new n_p25 (.lst [V.ref p19, .ref p22])
  have u_p25 : upd G23 p25 (.lst [V.ref p19, .ref p22]) p25 = some (.lst [V.ref p19, .ref p22]) := upd_same
  generalize upd G23 p25 (.lst [V.ref p19, .ref p22]) = G26 at s_p25 u_p25 ⊢
  have z27 := z24.trans s_p25
  replace t_p10 := TreeAt.same (s_p25) _ t_p10
  replace t_r14 := TreeAt.same (s_p25) _ t_r14
  replace t_p19 := TreeAt.same (s_p25) _ t_p19
  replace t_p22 := TreeAt.same (s_p25) _ t_p22
  have t_p25 : TreeAt G26 (.ref p25) (.mk [(.mk [(.mk [])]), (.mk [])]) := tr_li u_p25 (treesAt_c t_p19 (treesAt_c t_p22 trs_nil))
  refine ne_trees t_r14 t_p25 (by decide +kernel) (by decide +kernel) ⟨_, rfl, iteNS (by decide +kernel) ?_⟩
  clear n_p1 s_p1 u_p1 z3 t_p1 n_p4 s_p4 u_p4 z6 t_p4 n_p7 s_p7 u_p7 z9 t_p7 n_p10 s_p10 u_p10 z12 t_p10 n_r14 z15 t_r14 n_p16 s_p16 u_p16 z18 t_p16 n_p19 s_p19 u_p19 z21 t_p19 n_p22 s_p22 u_p22 z24 t_p22 n_p25 s_p25 u_p25 t_p25
  -- compare([[], [[]]], [[[]], []]) != 0
  refine ⟨(by show 0 ≤ sizeLine; decide), fun p28 n_p28 => ?_⟩
  have s_p28 := same_new n_p28 (.lst [])
  have u_p28 : upd G26 p28 (.lst []) p28 = some (.lst []) := upd_same
  generalize upd G26 p28 (.lst []) = G29 at s_p28 u_p28 ⊢
  have z30 := z27.trans s_p28
  have t_p28 : TreeAt G29 (.ref p28) (.mk []) := tr_li u_p28 trs_nil
  refine ⟨(by show 0 ≤ sizeLine; decide), fun p31 n_p31 => ?_⟩
  have s_p31 := same_new n_p31 (.lst [])
  have u_p31 : upd G29 p31 (.lst []) p31 = some (.lst []) := upd_same
  generalize upd G29 p31 (.lst []) = G32 at s_p31 u_p31 ⊢
  have z33 := z30.trans s_p31
  replace t_p28 := TreeAt.same (s_p31) _ t_p28
  have t_p31 : TreeAt G32 (.ref p31) (.mk []) := tr_li u_p31 trs_nil
  refine ⟨(by show 1 ≤ sizeLine; decide), fun p34 n_p34 => ?_⟩
  have s_p34 := same_new n_p34 (.lst [V.ref p31])
  have u_p34 : upd G32 p34 (.lst [V.ref p31]) p34 = some (.lst [V.ref p31]) := upd_same
  generalize upd G32 p34 (.lst [V.ref p31]) = G35 at s_p34 u_p34 ⊢
  have z36 := z33.trans s_p34
  replace t_p28 := TreeAt.same (s_p34) _ t_p28
  replace t_p31 := TreeAt.same (s_p34) _ t_p31
  have t_p34 : TreeAt G35 (.ref p34) (.mk [(.mk [])]) := tr_li u_p34 (treesAt_c t_p31 trs_nil)
  refine ⟨(by show 2 ≤ sizeLine; decide), fun p37 n_p37 => ?_⟩
  have s_p37 := same_new n_p37 (.lst [V.ref p28, .ref p34])
  have u_p37 : upd G35 p37 (.lst [V.ref p28, .ref p34]) p37 = some (.lst [V.ref p28, .ref p34]) := upd_same
  generalize upd G35 p37 (.lst [V.ref p28, .ref p34]) = G38 at s_p37 u_p37 ⊢
  have z39 := z36.trans s_p37
  replace t_p28 := TreeAt.same (s_p37) _ t_p28
  replace t_p34 := TreeAt.same (s_p37) _ t_p34
  have t_p37 : TreeAt G38 (.ref p37) (.mk [(.mk []), (.mk [(.mk [])])]) := tr_li u_p37 (treesAt_c t_p28 (treesAt_c t_p34 trs_nil))
  refine ⟨(by show 0 ≤ sizeLine; decide), fun p40 n_p40 => ?_⟩
  have s_p40 := same_new n_p40 (.lst [])
  have u_p40 : upd G38 p40 (.lst []) p40 = some (.lst []) := upd_same
  generalize upd G38 p40 (.lst []) = G41 at s_p40 u_p40 ⊢
  have z42 := z39.trans s_p40
  replace t_p37 := TreeAt.same (s_p40) _ t_p37
  have t_p40 : TreeAt G41 (.ref p40) (.mk []) := tr_li u_p40 trs_nil
  refine ⟨(by show 1 ≤ sizeLine; decide), fun p43 n_p43 => ?_⟩
  have s_p43 := same_new n_p43 (.lst [V.ref p40])
  have u_p43 : upd G41 p43 (.lst [V.ref p40]) p43 = some (.lst [V.ref p40]) := upd_same
  generalize upd G41 p43 (.lst [V.ref p40]) = G44 at s_p43 u_p43 ⊢
  have z45 := z42.trans s_p43
  replace t_p37 := TreeAt.same (s_p43) _ t_p37
  replace t_p40 := TreeAt.same (s_p43) _ t_p40
  have t_p43 : TreeAt G44 (.ref p43) (.mk [(.mk [])]) := tr_li u_p43 (treesAt_c t_p40 trs_nil)
  refine ⟨(by show 0 ≤ sizeLine; decide), fun p46 n_p46 => ?_⟩
  have s_p46 := same_new n_p46 (.lst [])
  have u_p46 : upd G44 p46 (.lst []) p46 = some (.lst []) := upd_same
  generalize upd G44 p46 (.lst []) = G47 at s_p46 u_p46 ⊢
  have z48 := z45.trans s_p46
  replace t_p37 := TreeAt.same (s_p46) _ t_p37
  replace t_p43 := TreeAt.same (s_p46) _ t_p43
  have t_p46 : TreeAt G47 (.ref p46) (.mk []) := tr_li u_p46 trs_nil
  refine ⟨(by show 2 ≤ sizeLine; decide), fun p49 n_p49 => ?_⟩
  have s_p49 := same_new n_p49 (.lst [V.ref p43, .ref p46])
  have u_p49 : upd G47 p49 (.lst [V.ref p43, .ref p46]) p49 = some (.lst [V.ref p43, .ref p46]) := upd_same
  generalize upd G47 p49 (.lst [V.ref p43, .ref p46]) = G50 at s_p49 u_p49 ⊢
  have z51 := z48.trans s_p49
  replace t_p37 := TreeAt.same (s_p49) _ t_p37
  replace t_p43 := TreeAt.same (s_p49) _ t_p43
  replace t_p46 := TreeAt.same (s_p49) _ t_p46
  have t_p49 : TreeAt G50 (.ref p49) (.mk [(.mk [(.mk [])]), (.mk [])]) := tr_li u_p49 (treesAt_c t_p43 (treesAt_c t_p46 trs_nil))
  refine ⟨_, _, rfl, .inl ⟨_, _, t_p37, ⟨by decide +kernel, by decide +kernel⟩, t_p49, ⟨by decide +kernel, by decide +kernel⟩, fun G52 s53 => ?_⟩⟩
  have z54 := z51.trans s53
  replace t_p37 := TreeAt.same (s53) _ t_p37
  replace t_p49 := TreeAt.same (s53) _ t_p49
  refine ⟨rfl, _, rfl, iteNS (by decide +kernel) ?_⟩
  clear z27 n_p28 s_p28 u_p28 z30 t_p28 n_p31 s_p31 u_p31 z33 t_p31 n_p34 s_p34 u_p34 z36 t_p34 n_p37 s_p37 u_p37 z39 t_p37 n_p40 s_p40 u_p40 z42 t_p40 n_p43 s_p43 u_p43 z45 t_p43 n_p46 s_p46 u_p46 z48 t_p46 n_p49 s_p49 u_p49 z51 t_p49 s53
  -- compare([[[]]], [[], [], []]) != 1
  refine ⟨(by show 0 ≤ sizeLine; decide), fun p55 n_p55 => ?_⟩
  have s_p55 := same_new n_p55 (.lst [])
  have u_p55 : upd G52 p55 (.lst []) p55 = some (.lst []) := upd_same
  generalize upd G52 p55 (.lst []) = G56 at s_p55 u_p55 ⊢
  have z57 := z54.trans s_p55
  have t_p55 : TreeAt G56 (.ref p55) (.mk []) := tr_li u_p55 trs_nil
  refine ⟨(by show 1 ≤ sizeLine; decide), fun p58 n_p58 => ?_⟩
  have s_p58 := same_new n_p58 (.lst [V.ref p55])
  have u_p58 : upd G56 p58 (.lst [V.ref p55]) p58 = some (.lst [V.ref p55]) := upd_same
  generalize upd G56 p58 (.lst [V.ref p55]) = G59 at s_p58 u_p58 ⊢
  have z60 := z57.trans s_p58
  replace t_p55 := TreeAt.same (s_p58) _ t_p55
  have t_p58 : TreeAt G59 (.ref p58) (.mk [(.mk [])]) := tr_li u_p58 (treesAt_c t_p55 trs_nil)
  refine ⟨(by show 1 ≤ sizeLine; decide), fun p61 n_p61 => ?_⟩
  have s_p61 := same_new n_p61 (.lst [V.ref p58])
  have u_p61 : upd G59 p61 (.lst [V.ref p58]) p61 = some (.lst [V.ref p58]) := upd_same
  generalize upd G59 p61 (.lst [V.ref p58]) = G62 at s_p61 u_p61 ⊢
  have z63 := z60.trans s_p61
  replace t_p58 := TreeAt.same (s_p61) _ t_p58
  have t_p61 : TreeAt G62 (.ref p61) (.mk [(.mk [(.mk [])])]) := tr_li u_p61 (treesAt_c t_p58 trs_nil)
  refine ⟨(by show 0 ≤ sizeLine; decide), fun p64 n_p64 => ?_⟩
  have s_p64 := same_new n_p64 (.lst [])
  have u_p64 : upd G62 p64 (.lst []) p64 = some (.lst []) := upd_same
  generalize upd G62 p64 (.lst []) = G65 at s_p64 u_p64 ⊢
  have z66 := z63.trans s_p64
  replace t_p61 := TreeAt.same (s_p64) _ t_p61
  have t_p64 : TreeAt G65 (.ref p64) (.mk []) := tr_li u_p64 trs_nil
  refine ⟨(by show 0 ≤ sizeLine; decide), fun p67 n_p67 => ?_⟩
  have s_p67 := same_new n_p67 (.lst [])
  have u_p67 : upd G65 p67 (.lst []) p67 = some (.lst []) := upd_same
  generalize upd G65 p67 (.lst []) = G68 at s_p67 u_p67 ⊢
  have z69 := z66.trans s_p67
  replace t_p61 := TreeAt.same (s_p67) _ t_p61
  replace t_p64 := TreeAt.same (s_p67) _ t_p64
  have t_p67 : TreeAt G68 (.ref p67) (.mk []) := tr_li u_p67 trs_nil
  refine ⟨(by show 0 ≤ sizeLine; decide), fun p70 n_p70 => ?_⟩
  have s_p70 := same_new n_p70 (.lst [])
  have u_p70 : upd G68 p70 (.lst []) p70 = some (.lst []) := upd_same
  generalize upd G68 p70 (.lst []) = G71 at s_p70 u_p70 ⊢
  have z72 := z69.trans s_p70
  replace t_p61 := TreeAt.same (s_p70) _ t_p61
  replace t_p64 := TreeAt.same (s_p70) _ t_p64
  replace t_p67 := TreeAt.same (s_p70) _ t_p67
  have t_p70 : TreeAt G71 (.ref p70) (.mk []) := tr_li u_p70 trs_nil
  refine ⟨(by show 3 ≤ sizeLine; decide), fun p73 n_p73 => ?_⟩
  have s_p73 := same_new n_p73 (.lst [V.ref p64, .ref p67, .ref p70])
  have u_p73 : upd G71 p73 (.lst [V.ref p64, .ref p67, .ref p70]) p73 = some (.lst [V.ref p64, .ref p67, .ref p70]) := upd_same
  generalize upd G71 p73 (.lst [V.ref p64, .ref p67, .ref p70]) = G74 at s_p73 u_p73 ⊢
  have z75 := z72.trans s_p73
  replace t_p61 := TreeAt.same (s_p73) _ t_p61
  replace t_p64 := TreeAt.same (s_p73) _ t_p64
  replace t_p67 := TreeAt.same (s_p73) _ t_p67
  replace t_p70 := TreeAt.same (s_p73) _ t_p70
  have t_p73 : TreeAt G74 (.ref p73) (.mk [(.mk []), (.mk []), (.mk [])]) := tr_li u_p73 (treesAt_c t_p64 (treesAt_c t_p67 (treesAt_c t_p70 trs_nil)))
  refine ⟨_, _, rfl, .inl ⟨_, _, t_p61, ⟨by decide +kernel, by decide +kernel⟩, t_p73, ⟨by decide +kernel, by decide +kernel⟩, fun G76 s77 => ?_⟩⟩
  have z78 := z75.trans s77
  replace t_p61 := TreeAt.same (s77) _ t_p61
  replace t_p73 := TreeAt.same (s77) _ t_p73
  refine ⟨rfl, _, rfl, iteNS (by decide +kernel) ?_⟩
  clear z54 n_p55 s_p55 u_p55 z57 t_p55 n_p58 s_p58 u_p58 z60 t_p58 n_p61 s_p61 u_p61 z63 t_p61 n_p64 s_p64 u_p64 z66 t_p64 n_p67 s_p67 u_p67 z69 t_p67 n_p70 s_p70 u_p70 z72 t_p70 n_p73 s_p73 u_p73 z75 t_p73 s77
  -- compare([], [[]]) != -1
  refine ⟨(by show 0 ≤ sizeLine; decide), fun p79 n_p79 => ?_⟩
  have s_p79 := same_new n_p79 (.lst [])
  have u_p79 : upd G76 p79 (.lst []) p79 = some (.lst []) := upd_same
  generalize upd G76 p79 (.lst []) = G80 at s_p79 u_p79 ⊢
  have z81 := z78.trans s_p79
  have t_p79 : TreeAt G80 (.ref p79) (.mk []) := tr_li u_p79 trs_nil
  refine ⟨(by show 0 ≤ sizeLine; decide), fun p82 n_p82 => ?_⟩
  have s_p82 := same_new n_p82 (.lst [])
  have u_p82 : upd G80 p82 (.lst []) p82 = some (.lst []) := upd_same
  generalize upd G80 p82 (.lst []) = G83 at s_p82 u_p82 ⊢
  have z84 := z81.trans s_p82
  replace t_p79 := TreeAt.same (s_p82) _ t_p79
  have t_p82 : TreeAt G83 (.ref p82) (.mk []) := tr_li u_p82 trs_nil
  refine ⟨(by show 1 ≤ sizeLine; decide), fun p85 n_p85 => ?_⟩
  have s_p85 := same_new n_p85 (.lst [V.ref p82])
  have u_p85 : upd G83 p85 (.lst [V.ref p82]) p85 = some (.lst [V.ref p82]) := upd_same
  generalize upd G83 p85 (.lst [V.ref p82]) = G86 at s_p85 u_p85 ⊢
  have z87 := z84.trans s_p85
  replace t_p79 := TreeAt.same (s_p85) _ t_p79
  replace t_p82 := TreeAt.same (s_p85) _ t_p82
  have t_p85 : TreeAt G86 (.ref p85) (.mk [(.mk [])]) := tr_li u_p85 (treesAt_c t_p82 trs_nil)
  refine ⟨_, _, rfl, .inl ⟨_, _, t_p79, ⟨by decide +kernel, by decide +kernel⟩, t_p85, ⟨by decide +kernel, by decide +kernel⟩, fun G88 s89 => ?_⟩⟩
  have z90 := z87.trans s89
  replace t_p79 := TreeAt.same (s89) _ t_p79
  replace t_p85 := TreeAt.same (s89) _ t_p85
  refine ⟨_, rfl, rfl, _, rfl, iteNS (by decide +kernel) ?_⟩
  clear z78 n_p79 s_p79 u_p79 z81 t_p79 n_p82 s_p82 u_p82 z84 t_p82 n_p85 s_p85 u_p85 z87 t_p85 s89
  -- together([[]], [[[]]]) != [[[]], []]
  refine ⟨(by show 0 ≤ sizeLine; decide), fun p91 n_p91 => ?_⟩
  have s_p91 := same_new n_p91 (.lst [])
  have u_p91 : upd G88 p91 (.lst []) p91 = some (.lst []) := upd_same
  generalize upd G88 p91 (.lst []) = G92 at s_p91 u_p91 ⊢
  have z93 := z90.trans s_p91
  have t_p91 : TreeAt G92 (.ref p91) (.mk []) := tr_li u_p91 trs_nil
  refine ⟨(by show 1 ≤ sizeLine; decide), fun p94 n_p94 => ?_⟩
  have s_p94 := same_new n_p94 (.lst [V.ref p91])
  have u_p94 : upd G92 p94 (.lst [V.ref p91]) p94 = some (.lst [V.ref p91]) := upd_same
  generalize upd G92 p94 (.lst [V.ref p91]) = G95 at s_p94 u_p94 ⊢
  have z96 := z93.trans s_p94
  replace t_p91 := TreeAt.same (s_p94) _ t_p91
  have t_p94 : TreeAt G95 (.ref p94) (.mk [(.mk [])]) := tr_li u_p94 (treesAt_c t_p91 trs_nil)
  refine ⟨(by show 0 ≤ sizeLine; decide), fun p97 n_p97 => ?_⟩
  have s_p97 := same_new n_p97 (.lst [])
  have u_p97 : upd G95 p97 (.lst []) p97 = some (.lst []) := upd_same
  generalize upd G95 p97 (.lst []) = G98 at s_p97 u_p97 ⊢
  have z99 := z96.trans s_p97
  replace t_p94 := TreeAt.same (s_p97) _ t_p94
  have t_p97 : TreeAt G98 (.ref p97) (.mk []) := tr_li u_p97 trs_nil
  refine ⟨(by show 1 ≤ sizeLine; decide), fun p100 n_p100 => ?_⟩
  have s_p100 := same_new n_p100 (.lst [V.ref p97])
  have u_p100 : upd G98 p100 (.lst [V.ref p97]) p100 = some (.lst [V.ref p97]) := upd_same
  generalize upd G98 p100 (.lst [V.ref p97]) = G101 at s_p100 u_p100 ⊢
  have z102 := z99.trans s_p100
  replace t_p94 := TreeAt.same (s_p100) _ t_p94
  replace t_p97 := TreeAt.same (s_p100) _ t_p97
  have t_p100 : TreeAt G101 (.ref p100) (.mk [(.mk [])]) := tr_li u_p100 (treesAt_c t_p97 trs_nil)
  refine ⟨(by show 1 ≤ sizeLine; decide), fun p103 n_p103 => ?_⟩
  have s_p103 := same_new n_p103 (.lst [V.ref p100])
  have u_p103 : upd G101 p103 (.lst [V.ref p100]) p103 = some (.lst [V.ref p100]) := upd_same
  generalize upd G101 p103 (.lst [V.ref p100]) = G104 at s_p103 u_p103 ⊢
  have z105 := z102.trans s_p103
  replace t_p94 := TreeAt.same (s_p103) _ t_p94
  replace t_p100 := TreeAt.same (s_p103) _ t_p100
  have t_p103 : TreeAt G104 (.ref p103) (.mk [(.mk [(.mk [])])]) := tr_li u_p103 (treesAt_c t_p100 trs_nil)
  refine ⟨_, _, rfl, .inl ⟨_, _, t_p94, ⟨by decide +kernel, by decide +kernel⟩, t_p103, ⟨by decide +kernel, by decide +kernel⟩, fun _ G106 r107 n_r107 => ?_, fun hbad => absurd hbad (by decide +kernel)⟩⟩
  have z108 := z105.trans n_r107.1
  replace t_p94 := TreeAt.same (n_r107.1) _ t_p94
  replace t_p103 := TreeAt.same (n_r107.1) _ t_p103
  have t_r107 := n_r107.at_
  refine ⟨(by show 0 ≤ sizeLine; decide), fun p109 n_p109 => ?_⟩
  have s_p109 := same_new n_p109 (.lst [])
  have u_p109 : upd G106 p109 (.lst []) p109 = some (.lst []) := upd_same
  generalize upd G106 p109 (.lst []) = G110 at s_p109 u_p109 ⊢
  have z111 := z108.trans s_p109
  replace t_p94 := TreeAt.same (s_p109) _ t_p94
  replace t_p103 := TreeAt.same (s_p109) _ t_p103
  replace t_r107 := TreeAt.same (s_p109) _ t_r107
  have t_p109 : TreeAt G110 (.ref p109) (.mk []) := tr_li u_p109 trs_nil
  refine ⟨(by show 1 ≤ sizeLine; decide), fun p112 n_p112 => ?_⟩
  have s_p112 := same_new n_p112 (.lst [V.ref p109])
  have u_p112 : upd G110 p112 (.lst [V.ref p109]) p112 = some (.lst [V.ref p109]) := upd_same
  generalize upd G110 p112 (.lst [V.ref p109]) = G113 at s_p112 u_p112 ⊢
  have z114 := z111.trans s_p112
  replace t_p94 := TreeAt.same (s_p112) _ t_p94
  replace t_p103 := TreeAt.same (s_p112) _ t_p103
  replace t_r107 := TreeAt.same (s_p112) _ t_r107
  replace t_p109 := TreeAt.same (s_p112) _ t_p109
  have t_p112 : TreeAt G113 (.ref p112) (.mk [(.mk [])]) := tr_li u_p112 (treesAt_c t_p109 trs_nil)
  refine ⟨(by show 0 ≤ sizeLine; decide), fun p115 n_p115 => ?_⟩
  have s_p115 := same_new n_p115 (.lst [])
  have u_p115 : upd G113 p115 (.lst []) p115 = some (.lst []) := upd_same
  generalize upd G113 p115 (.lst []) = G116 at s_p115 u_p115 ⊢
  have z117 := z114.trans s_p115
  replace t_p94 := TreeAt.same (s_p115) _ t_p94
  replace t_p103 := TreeAt.same (s_p115) _ t_p103
  replace t_r107 := TreeAt.same (s_p115) _ t_r107
  replace t_p112 := TreeAt.same (s_p115) _ t_p112
  have t_p115 : TreeAt G116 (.ref p115) (.mk []) := tr_li u_p115 trs_nil
  refine ⟨(by show 2 ≤ sizeLine; decide), fun p118 n_p118 => ?_⟩
  have s_p118 := same_new n_p118 (.lst [V.ref p112, .ref p115])
  have u_p118 : upd G116 p118 (.lst [V.ref p112, .ref p115]) p118 = some (.lst [V.ref p112, .ref p115]) := upd_same
  generalize upd G116 p118 (.lst [V.ref p112, .ref p115]) = G119 at s_p118 u_p118 ⊢
  have z120 := z117.trans s_p118
  replace t_p94 := TreeAt.same (s_p118) _ t_p94
  replace t_p103 := TreeAt.same (s_p118) _ t_p103
  replace t_r107 := TreeAt.same (s_p118) _ t_r107
  replace t_p112 := TreeAt.same (s_p118) _ t_p112
  replace t_p115 := TreeAt.same (s_p118) _ t_p115
  have t_p118 : TreeAt G119 (.ref p118) (.mk [(.mk [(.mk [])]), (.mk [])]) := tr_li u_p118 (treesAt_c t_p112 (treesAt_c t_p115 trs_nil))
  refine ne_trees t_r107 t_p118 (by decide +kernel) (by decide +kernel) ⟨_, rfl, iteNS (by decide +kernel) ?_⟩
  clear z90 n_p91 s_p91 u_p91 z93 t_p91 n_p94 s_p94 u_p94 z96 t_p94 n_p97 s_p97 u_p97 z99 t_p97 n_p100 s_p100 u_p100 z102 t_p100 n_p103 s_p103 u_p103 z105 t_p103 n_r107 z108 t_r107 n_p109 s_p109 u_p109 z111 t_p109 n_p112 s_p112 u_p112 z114 t_p112 n_p115 s_p115 u_p115 z117 t_p115 n_p118 s_p118 u_p118 t_p118
  -- behind([[[]], []], [[[]]]) != [[[]], [[]]]
  refine ⟨(by show 0 ≤ sizeLine; decide), fun p121 n_p121 => ?_⟩
  have s_p121 := same_new n_p121 (.lst [])
  have u_p121 : upd G119 p121 (.lst []) p121 = some (.lst []) := upd_same
  generalize upd G119 p121 (.lst []) = G122 at s_p121 u_p121 ⊢
  have z123 := z120.trans s_p121
  have t_p121 : TreeAt G122 (.ref p121) (.mk []) := tr_li u_p121 trs_nil
  refine ⟨(by show 1 ≤ sizeLine; decide), fun p124 n_p124 => ?_⟩
  have s_p124 := same_new n_p124 (.lst [V.ref p121])
  have u_p124 : upd G122 p124 (.lst [V.ref p121]) p124 = some (.lst [V.ref p121]) := upd_same
  generalize upd G122 p124 (.lst [V.ref p121]) = G125 at s_p124 u_p124 ⊢
  have z126 := z123.trans s_p124
  replace t_p121 := TreeAt.same (s_p124) _ t_p121
  have t_p124 : TreeAt G125 (.ref p124) (.mk [(.mk [])]) := tr_li u_p124 (treesAt_c t_p121 trs_nil)
  refine ⟨(by show 0 ≤ sizeLine; decide), fun p127 n_p127 => ?_⟩
  have s_p127 := same_new n_p127 (.lst [])
  have u_p127 : upd G125 p127 (.lst []) p127 = some (.lst []) := upd_same
  generalize upd G125 p127 (.lst []) = G128 at s_p127 u_p127 ⊢
  have z129 := z126.trans s_p127
  replace t_p124 := TreeAt.same (s_p127) _ t_p124
  have t_p127 : TreeAt G128 (.ref p127) (.mk []) := tr_li u_p127 trs_nil
  refine ⟨(by show 2 ≤ sizeLine; decide), fun p130 n_p130 => ?_⟩
  have s_p130 := same_new n_p130 (.lst [V.ref p124, .ref p127])
  have u_p130 : upd G128 p130 (.lst [V.ref p124, .ref p127]) p130 = some (.lst [V.ref p124, .ref p127]) := upd_same
  generalize upd G128 p130 (.lst [V.ref p124, .ref p127]) = G131 at s_p130 u_p130 ⊢
  have z132 := z129.trans s_p130
  replace t_p124 := TreeAt.same (s_p130) _ t_p124
  replace t_p127 := TreeAt.same (s_p130) _ t_p127
  have t_p130 : TreeAt G131 (.ref p130) (.mk [(.mk [(.mk [])]), (.mk [])]) := tr_li u_p130 (treesAt_c t_p124 (treesAt_c t_p127 trs_nil))
  refine ⟨(by show 0 ≤ sizeLine; decide), fun p133 n_p133 => ?_⟩
  have s_p133 := same_new n_p133 (.lst [])
  have u_p133 : upd G131 p133 (.lst []) p133 = some (.lst []) := upd_same
  generalize upd G131 p133 (.lst []) = G134 at s_p133 u_p133 ⊢
  have z135 := z132.trans s_p133
  replace t_p130 := TreeAt.same (s_p133) _ t_p130
  have t_p133 : TreeAt G134 (.ref p133) (.mk []) := tr_li u_p133 trs_nil
  refine ⟨(by show 1 ≤ sizeLine; decide), fun p136 n_p136 => ?_⟩
  have s_p136 := same_new n_p136 (.lst [V.ref p133])
  have u_p136 : upd G134 p136 (.lst [V.ref p133]) p136 = some (.lst [V.ref p133]) := upd_same
  generalize upd G134 p136 (.lst [V.ref p133]) = G137 at s_p136 u_p136 ⊢
  have z138 := z135.trans s_p136
  replace t_p130 := TreeAt.same (s_p136) _ t_p130
  replace t_p133 := TreeAt.same (s_p136) _ t_p133
  have t_p136 : TreeAt G137 (.ref p136) (.mk [(.mk [])]) := tr_li u_p136 (treesAt_c t_p133 trs_nil)
  refine ⟨(by show 1 ≤ sizeLine; decide), fun p139 n_p139 => ?_⟩
  have s_p139 := same_new n_p139 (.lst [V.ref p136])
  have u_p139 : upd G137 p139 (.lst [V.ref p136]) p139 = some (.lst [V.ref p136]) := upd_same
  generalize upd G137 p139 (.lst [V.ref p136]) = G140 at s_p139 u_p139 ⊢
  have z141 := z138.trans s_p139
  replace t_p130 := TreeAt.same (s_p139) _ t_p130
  replace t_p136 := TreeAt.same (s_p139) _ t_p136
  have t_p139 : TreeAt G140 (.ref p139) (.mk [(.mk [(.mk [])])]) := tr_li u_p139 (treesAt_c t_p136 trs_nil)
  refine ⟨_, _, rfl, .inl ⟨_, _, t_p130, ⟨by decide +kernel, by decide +kernel⟩, t_p139, ⟨by decide +kernel, by decide +kernel⟩, fun _ G142 r143 n_r143 => ?_, fun hbad => absurd hbad (by decide +kernel)⟩⟩
  have z144 := z141.trans n_r143.1
  replace t_p130 := TreeAt.same (n_r143.1) _ t_p130
  replace t_p139 := TreeAt.same (n_r143.1) _ t_p139
  have t_r143 := n_r143.at_
  refine ⟨(by show 0 ≤ sizeLine; decide), fun p145 n_p145 => ?_⟩
  have s_p145 := same_new n_p145 (.lst [])
  have u_p145 : upd G142 p145 (.lst []) p145 = some (.lst []) := upd_same
  generalize upd G142 p145 (.lst []) = G146 at s_p145 u_p145 ⊢
  have z147 := z144.trans s_p145
  replace t_p130 := TreeAt.same (s_p145) _ t_p130
  replace t_p139 := TreeAt.same (s_p145) _ t_p139
  replace t_r143 := TreeAt.same (s_p145) _ t_r143
  have t_p145 : TreeAt G146 (.ref p145) (.mk []) := tr_li u_p145 trs_nil
  refine ⟨(by show 1 ≤ sizeLine; decide), fun p148 n_p148 => ?_⟩
  have s_p148 := same_new n_p148 (.lst [V.ref p145])
  have u_p148 : upd G146 p148 (.lst [V.ref p145]) p148 = some (.lst [V.ref p145]) := upd_same
  generalize upd G146 p148 (.lst [V.ref p145]) = G149 at s_p148 u_p148 ⊢
  have z150 := z147.trans s_p148
  replace t_p130 := TreeAt.same (s_p148) _ t_p130
  replace t_p139 := TreeAt.same (s_p148) _ t_p139
  replace t_r143 := TreeAt.same (s_p148) _ t_r143
  replace t_p145 := TreeAt.same (s_p148) _ t_p145
  have t_p148 : TreeAt G149 (.ref p148) (.mk [(.mk [])]) := tr_li u_p148 (treesAt_c t_p145 trs_nil)
  refine ⟨(by show 0 ≤ sizeLine; decide), fun p151 n_p151 => ?_⟩
  have s_p151 := same_new n_p151 (.lst [])
  have u_p151 : upd G149 p151 (.lst []) p151 = some (.lst []) := upd_same
  generalize upd G149 p151 (.lst []) = G152 at s_p151 u_p151 ⊢
  have z153 := z150.trans s_p151
  replace t_p130 := TreeAt.same (s_p151) _ t_p130
  replace t_p139 := TreeAt.same (s_p151) _ t_p139
  replace t_r143 := TreeAt.same (s_p151) _ t_r143
  replace t_p148 := TreeAt.same (s_p151) _ t_p148
  have t_p151 : TreeAt G152 (.ref p151) (.mk []) := tr_li u_p151 trs_nil
  refine ⟨(by show 1 ≤ sizeLine; decide), fun p154 n_p154 => ?_⟩
  have s_p154 := same_new n_p154 (.lst [V.ref p151])
  have u_p154 : upd G152 p154 (.lst [V.ref p151]) p154 = some (.lst [V.ref p151]) := upd_same
  generalize upd G152 p154 (.lst [V.ref p151]) = G155 at s_p154 u_p154 ⊢
  have z156 := z153.trans s_p154
  replace t_p130 := TreeAt.same (s_p154) _ t_p130
  replace t_p139 := TreeAt.same (s_p154) _ t_p139
  replace t_r143 := TreeAt.same (s_p154) _ t_r143
  replace t_p148 := TreeAt.same (s_p154) _ t_p148
  replace t_p151 := TreeAt.same (s_p154) _ t_p151
  have t_p154 : TreeAt G155 (.ref p154) (.mk [(.mk [])]) := tr_li u_p154 (treesAt_c t_p151 trs_nil)
  refine ⟨(by show 2 ≤ sizeLine; decide), fun p157 n_p157 => ?_⟩
  have s_p157 := same_new n_p157 (.lst [V.ref p148, .ref p154])
  have u_p157 : upd G155 p157 (.lst [V.ref p148, .ref p154]) p157 = some (.lst [V.ref p148, .ref p154]) := upd_same
  generalize upd G155 p157 (.lst [V.ref p148, .ref p154]) = G158 at s_p157 u_p157 ⊢
  have z159 := z156.trans s_p157
  replace t_p130 := TreeAt.same (s_p157) _ t_p130
  replace t_p139 := TreeAt.same (s_p157) _ t_p139
  replace t_r143 := TreeAt.same (s_p157) _ t_r143
  replace t_p148 := TreeAt.same (s_p157) _ t_p148
  replace t_p154 := TreeAt.same (s_p157) _ t_p154
  have t_p157 : TreeAt G158 (.ref p157) (.mk [(.mk [(.mk [])]), (.mk [(.mk [])])]) := tr_li u_p157 (treesAt_c t_p148 (treesAt_c t_p154 trs_nil))
  refine ne_trees t_r143 t_p157 (by decide +kernel) (by decide +kernel) ⟨_, rfl, iteNS (by decide +kernel) ?_⟩
  clear z120 n_p121 s_p121 u_p121 z123 t_p121 n_p124 s_p124 u_p124 z126 t_p124 n_p127 s_p127 u_p127 z129 t_p127 n_p130 s_p130 u_p130 z132 t_p130 n_p133 s_p133 u_p133 z135 t_p133 n_p136 s_p136 u_p136 z138 t_p136 n_p139 s_p139 u_p139 z141 t_p139 n_r143 z144 t_r143 n_p145 s_p145 u_p145 z147 t_p145 n_p148 s_p148 u_p148 z150 t_p148 n_p151 s_p151 u_p151 z153 t_p151 n_p154 s_p154 u_p154 z156 t_p154 n_p157 s_p157 u_p157 t_p157
  -- behind([[], [[]]], []) != [[[]], []]
  refine ⟨(by show 0 ≤ sizeLine; decide), fun p160 n_p160 => ?_⟩
  have s_p160 := same_new n_p160 (.lst [])
  have u_p160 : upd G158 p160 (.lst []) p160 = some (.lst []) := upd_same
  generalize upd G158 p160 (.lst []) = G161 at s_p160 u_p160 ⊢
  have z162 := z159.trans s_p160
  have t_p160 : TreeAt G161 (.ref p160) (.mk []) := tr_li u_p160 trs_nil
  refine ⟨(by show 0 ≤ sizeLine; decide), fun p163 n_p163 => ?_⟩
  have s_p163 := same_new n_p163 (.lst [])
  have u_p163 : upd G161 p163 (.lst []) p163 = some (.lst []) := upd_same
  generalize upd G161 p163 (.lst []) = G164 at s_p163 u_p163 ⊢
  have z165 := z162.trans s_p163
  replace t_p160 := TreeAt.same (s_p163) _ t_p160
  have t_p163 : TreeAt G164 (.ref p163) (.mk []) := tr_li u_p163 trs_nil
  refine ⟨(by show 1 ≤ sizeLine; decide), fun p166 n_p166 => ?_⟩
  have s_p166 := same_new n_p166 (.lst [V.ref p163])
  have u_p166 : upd G164 p166 (.lst [V.ref p163]) p166 = some (.lst [V.ref p163]) := upd_same
  generalize upd G164 p166 (.lst [V.ref p163]) = G167 at s_p166 u_p166 ⊢
  have z168 := z165.trans s_p166
  replace t_p160 := TreeAt.same (s_p166) _ t_p160
  replace t_p163 := TreeAt.same (s_p166) _ t_p163
  have t_p166 : TreeAt G167 (.ref p166) (.mk [(.mk [])]) := tr_li u_p166 (treesAt_c t_p163 trs_nil)
  refine ⟨(by show 2 ≤ sizeLine; decide), fun p169 n_p169 => ?_⟩
  have s_p169 := same_new n_p169 (.lst [V.ref p160, .ref p166])
  have u_p169 : upd G167 p169 (.lst [V.ref p160, .ref p166]) p169 = some (.lst [V.ref p160, .ref p166]) := upd_same
  generalize upd G167 p169 (.lst [V.ref p160, .ref p166]) = G170 at s_p169 u_p169 ⊢
  have z171 := z168.trans s_p169
  replace t_p160 := TreeAt.same (s_p169) _ t_p160
  replace t_p166 := TreeAt.same (s_p169) _ t_p166
  have t_p169 : TreeAt G170 (.ref p169) (.mk [(.mk []), (.mk [(.mk [])])]) := tr_li u_p169 (treesAt_c t_p160 (treesAt_c t_p166 trs_nil))
  refine ⟨(by show 0 ≤ sizeLine; decide), fun p172 n_p172 => ?_⟩
  have s_p172 := same_new n_p172 (.lst [])
  have u_p172 : upd G170 p172 (.lst []) p172 = some (.lst []) := upd_same
  generalize upd G170 p172 (.lst []) = G173 at s_p172 u_p172 ⊢
  have z174 := z171.trans s_p172
  replace t_p169 := TreeAt.same (s_p172) _ t_p169
  have t_p172 : TreeAt G173 (.ref p172) (.mk []) := tr_li u_p172 trs_nil
  refine ⟨_, _, rfl, .inl ⟨_, _, t_p169, ⟨by decide +kernel, by decide +kernel⟩, t_p172, ⟨by decide +kernel, by decide +kernel⟩, fun _ G175 r176 n_r176 => ?_, fun hbad => absurd hbad (by decide +kernel)⟩⟩
  have z177 := z174.trans n_r176.1
  replace t_p169 := TreeAt.same (n_r176.1) _ t_p169
  replace t_p172 := TreeAt.same (n_r176.1) _ t_p172
  have t_r176 := n_r176.at_
  refine ⟨(by show 0 ≤ sizeLine; decide), fun p178 n_p178 => ?_⟩
  have s_p178 := same_new n_p178 (.lst [])
  have u_p178 : upd G175 p178 (.lst []) p178 = some (.lst []) := upd_same
  generalize upd G175 p178 (.lst []) = G179 at s_p178 u_p178 ⊢
  have z180 := z177.trans s_p178
  replace t_p169 := TreeAt.same (s_p178) _ t_p169
  replace t_p172 := TreeAt.same (s_p178) _ t_p172
  replace t_r176 := TreeAt.same (s_p178) _ t_r176
  have t_p178 : TreeAt G179 (.ref p178) (.mk []) := tr_li u_p178 trs_nil
  refine ⟨(by show 1 ≤ sizeLine; decide), fun p181 n_p181 => ?_⟩
  have s_p181 := same_new n_p181 (.lst [V.ref p178])
  have u_p181 : upd G179 p181 (.lst [V.ref p178]) p181 = some (.lst [V.ref p178]) := upd_same
  generalize upd G179 p181 (.lst [V.ref p178]) = G182 at s_p181 u_p181 ⊢
  have z183 := z180.trans s_p181
  replace t_p169 := TreeAt.same (s_p181) _ t_p169
  replace t_p172 := TreeAt.same (s_p181) _ t_p172
  replace t_r176 := TreeAt.same (s_p181) _ t_r176
  replace t_p178 := TreeAt.same (s_p181) _ t_p178
  have t_p181 : TreeAt G182 (.ref p181) (.mk [(.mk [])]) := tr_li u_p181 (treesAt_c t_p178 trs_nil)
  refine ⟨(by show 0 ≤ sizeLine; decide), fun p184 n_p184 => ?_⟩
  have s_p184 := same_new n_p184 (.lst [])
  have u_p184 : upd G182 p184 (.lst []) p184 = some (.lst []) := upd_same
  generalize upd G182 p184 (.lst []) = G185 at s_p184 u_p184 ⊢
  have z186 := z183.trans s_p184
  replace t_p169 := TreeAt.same (s_p184) _ t_p169
  replace t_p172 := TreeAt.same (s_p184) _ t_p172
  replace t_r176 := TreeAt.same (s_p184) _ t_r176
  replace t_p181 := TreeAt.same (s_p184) _ t_p181
  have t_p184 : TreeAt G185 (.ref p184) (.mk []) := tr_li u_p184 trs_nil
  refine ⟨(by show 2 ≤ sizeLine; decide), fun p187 n_p187 => ?_⟩
  have s_p187 := same_new n_p187 (.lst [V.ref p181, .ref p184])
  have u_p187 : upd G185 p187 (.lst [V.ref p181, .ref p184]) p187 = some (.lst [V.ref p181, .ref p184]) := upd_same
  generalize upd G185 p187 (.lst [V.ref p181, .ref p184]) = G188 at s_p187 u_p187 ⊢
  have z189 := z186.trans s_p187
  replace t_p169 := TreeAt.same (s_p187) _ t_p169
  replace t_p172 := TreeAt.same (s_p187) _ t_p172
  replace t_r176 := TreeAt.same (s_p187) _ t_r176
  replace t_p181 := TreeAt.same (s_p187) _ t_p181
  replace t_p184 := TreeAt.same (s_p187) _ t_p184
  have t_p187 : TreeAt G188 (.ref p187) (.mk [(.mk [(.mk [])]), (.mk [])]) := tr_li u_p187 (treesAt_c t_p181 (treesAt_c t_p184 trs_nil))
  refine ne_trees t_r176 t_p187 (by decide +kernel) (by decide +kernel) ⟨_, rfl, iteNS (by decide +kernel) ?_⟩
  clear z159 n_p160 s_p160 u_p160 z162 t_p160 n_p163 s_p163 u_p163 z165 t_p163 n_p166 s_p166 u_p166 z168 t_p166 n_p169 s_p169 u_p169 z171 t_p169 n_p172 s_p172 u_p172 z174 t_p172 n_r176 z177 t_r176 n_p178 s_p178 u_p178 z180 t_p178 n_p181 s_p181 u_p181 z183 t_p181 n_p184 s_p184 u_p184 z186 t_p184 n_p187 s_p187 u_p187 t_p187
  -- behind([[]], [[]]) != [[], []]
  refine ⟨(by show 0 ≤ sizeLine; decide), fun p190 n_p190 => ?_⟩
  have s_p190 := same_new n_p190 (.lst [])
  have u_p190 : upd G188 p190 (.lst []) p190 = some (.lst []) := upd_same
  generalize upd G188 p190 (.lst []) = G191 at s_p190 u_p190 ⊢
  have z192 := z189.trans s_p190
  have t_p190 : TreeAt G191 (.ref p190) (.mk []) := tr_li u_p190 trs_nil
  refine ⟨(by show 1 ≤ sizeLine; decide), fun p193 n_p193 => ?_⟩
  have s_p193 := same_new n_p193 (.lst [V.ref p190])
  have u_p193 : upd G191 p193 (.lst [V.ref p190]) p193 = some (.lst [V.ref p190]) := upd_same
  generalize upd G191 p193 (.lst [V.ref p190]) = G194 at s_p193 u_p193 ⊢
  have z195 := z192.trans s_p193
  replace t_p190 := TreeAt.same (s_p193) _ t_p190
  have t_p193 : TreeAt G194 (.ref p193) (.mk [(.mk [])]) := tr_li u_p193 (treesAt_c t_p190 trs_nil)
  refine ⟨(by show 0 ≤ sizeLine; decide), fun p196 n_p196 => ?_⟩
  have s_p196 := same_new n_p196 (.lst [])
  have u_p196 : upd G194 p196 (.lst []) p196 = some (.lst []) := upd_same
  generalize upd G194 p196 (.lst []) = G197 at s_p196 u_p196 ⊢
  have z198 := z195.trans s_p196
  replace t_p193 := TreeAt.same (s_p196) _ t_p193
  have t_p196 : TreeAt G197 (.ref p196) (.mk []) := tr_li u_p196 trs_nil
  refine ⟨(by show 1 ≤ sizeLine; decide), fun p199 n_p199 => ?_⟩
  have s_p199 := same_new n_p199 (.lst [V.ref p196])
  have u_p199 : upd G197 p199 (.lst [V.ref p196]) p199 = some (.lst [V.ref p196]) := upd_same
  generalize upd G197 p199 (.lst [V.ref p196]) = G200 at s_p199 u_p199 ⊢
  have z201 := z198.trans s_p199
  replace t_p193 := TreeAt.same (s_p199) _ t_p193
  replace t_p196 := TreeAt.same (s_p199) _ t_p196
  have t_p199 : TreeAt G200 (.ref p199) (.mk [(.mk [])]) := tr_li u_p199 (treesAt_c t_p196 trs_nil)
  refine ⟨_, _, rfl, .inl ⟨_, _, t_p193, ⟨by decide +kernel, by decide +kernel⟩, t_p199, ⟨by decide +kernel, by decide +kernel⟩, fun _ G202 r203 n_r203 => ?_, fun hbad => absurd hbad (by decide +kernel)⟩⟩
  have z204 := z201.trans n_r203.1
  replace t_p193 := TreeAt.same (n_r203.1) _ t_p193
  replace t_p199 := TreeAt.same (n_r203.1) _ t_p199
  have t_r203 := n_r203.at_
  refine ⟨(by show 0 ≤ sizeLine; decide), fun p205 n_p205 => ?_⟩
  have s_p205 := same_new n_p205 (.lst [])
  have u_p205 : upd G202 p205 (.lst []) p205 = some (.lst []) := upd_same
  generalize upd G202 p205 (.lst []) = G206 at s_p205 u_p205 ⊢
  have z207 := z204.trans s_p205
  replace t_p193 := TreeAt.same (s_p205) _ t_p193
  replace t_p199 := TreeAt.same (s_p205) _ t_p199
  replace t_r203 := TreeAt.same (s_p205) _ t_r203
  have t_p205 : TreeAt G206 (.ref p205) (.mk []) := tr_li u_p205 trs_nil
  refine ⟨(by show 0 ≤ sizeLine; decide), fun p208 n_p208 => ?_⟩
  have s_p208 := same_new n_p208 (.lst [])
  have u_p208 : upd G206 p208 (.lst []) p208 = some (.lst []) := upd_same
  generalize upd G206 p208 (.lst []) = G209 at s_p208 u_p208 ⊢
  have z210 := z207.trans s_p208
  replace t_p193 := TreeAt.same (s_p208) _ t_p193
  replace t_p199 := TreeAt.same (s_p208) _ t_p199
  replace t_r203 := TreeAt.same (s_p208) _ t_r203
  replace t_p205 := TreeAt.same (s_p208) _ t_p205
  have t_p208 : TreeAt G209 (.ref p208) (.mk []) := tr_li u_p208 trs_nil
  refine ⟨(by show 2 ≤ sizeLine; decide), fun p211 n_p211 => ?_⟩
  have s_p211 := same_new n_p211 (.lst [V.ref p205, .ref p208])
  have u_p211 : upd G209 p211 (.lst [V.ref p205, .ref p208]) p211 = some (.lst [V.ref p205, .ref p208]) := upd_same
  generalize upd G209 p211 (.lst [V.ref p205, .ref p208]) = G212 at s_p211 u_p211 ⊢
  have z213 := z210.trans s_p211
  replace t_p193 := TreeAt.same (s_p211) _ t_p193
  replace t_p199 := TreeAt.same (s_p211) _ t_p199
  replace t_r203 := TreeAt.same (s_p211) _ t_r203
  replace t_p205 := TreeAt.same (s_p211) _ t_p205
  replace t_p208 := TreeAt.same (s_p211) _ t_p208
  have t_p211 : TreeAt G212 (.ref p211) (.mk [(.mk []), (.mk [])]) := tr_li u_p211 (treesAt_c t_p205 (treesAt_c t_p208 trs_nil))
  refine ne_trees t_r203 t_p211 (by decide +kernel) (by decide +kernel) ⟨_, rfl, iteNS (by decide +kernel) ?_⟩
  clear z189 n_p190 s_p190 u_p190 z192 t_p190 n_p193 s_p193 u_p193 z195 t_p193 n_p196 s_p196 u_p196 z198 t_p196 n_p199 s_p199 u_p199 z201 t_p199 n_r203 z204 t_r203 n_p205 s_p205 u_p205 z207 t_p205 n_p208 s_p208 u_p208 z210 t_p208 n_p211 s_p211 u_p211 t_p211
  -- compare([[], []], [[]]) != 1
  refine ⟨(by show 0 ≤ sizeLine; decide), fun p214 n_p214 => ?_⟩
  have s_p214 := same_new n_p214 (.lst [])
  have u_p214 : upd G212 p214 (.lst []) p214 = some (.lst []) := upd_same
  generalize upd G212 p214 (.lst []) = G215 at s_p214 u_p214 ⊢
  have z216 := z213.trans s_p214
  have t_p214 : TreeAt G215 (.ref p214) (.mk []) := tr_li u_p214 trs_nil
  refine ⟨(by show 0 ≤ sizeLine; decide), fun p217 n_p217 => ?_⟩
  have s_p217 := same_new n_p217 (.lst [])
  have u_p217 : upd G215 p217 (.lst []) p217 = some (.lst []) := upd_same
  generalize upd G215 p217 (.lst []) = G218 at s_p217 u_p217 ⊢
  have z219 := z216.trans s_p217
  replace t_p214 := TreeAt.same (s_p217) _ t_p214
  have t_p217 : TreeAt G218 (.ref p217) (.mk []) := tr_li u_p217 trs_nil
  refine ⟨(by show 2 ≤ sizeLine; decide), fun p220 n_p220 => ?_⟩
  have s_p220 := same_new n_p220 (.lst [V.ref p214, .ref p217])
  have u_p220 : upd G218 p220 (.lst [V.ref p214, .ref p217]) p220 = some (.lst [V.ref p214, .ref p217]) := upd_same
  generalize upd G218 p220 (.lst [V.ref p214, .ref p217]) = G221 at s_p220 u_p220 ⊢
  have z222 := z219.trans s_p220
  replace t_p214 := TreeAt.same (s_p220) _ t_p214
  replace t_p217 := TreeAt.same (s_p220) _ t_p217
  have t_p220 : TreeAt G221 (.ref p220) (.mk [(.mk []), (.mk [])]) := tr_li u_p220 (treesAt_c t_p214 (treesAt_c t_p217 trs_nil))
  refine ⟨(by show 0 ≤ sizeLine; decide), fun p223 n_p223 => ?_⟩
  have s_p223 := same_new n_p223 (.lst [])
  have u_p223 : upd G221 p223 (.lst []) p223 = some (.lst []) := upd_same
  generalize upd G221 p223 (.lst []) = G224 at s_p223 u_p223 ⊢
  have z225 := z222.trans s_p223
  replace t_p220 := TreeAt.same (s_p223) _ t_p220
  have t_p223 : TreeAt G224 (.ref p223) (.mk []) := tr_li u_p223 trs_nil
  refine ⟨(by show 1 ≤ sizeLine; decide), fun p226 n_p226 => ?_⟩
  have s_p226 := same_new n_p226 (.lst [V.ref p223])
  have u_p226 : upd G224 p226 (.lst [V.ref p223]) p226 = some (.lst [V.ref p223]) := upd_same
  generalize upd G224 p226 (.lst [V.ref p223]) = G227 at s_p226 u_p226 ⊢
  have z228 := z225.trans s_p226
  replace t_p220 := TreeAt.same (s_p226) _ t_p220
  replace t_p223 := TreeAt.same (s_p226) _ t_p223
  have t_p226 : TreeAt G227 (.ref p226) (.mk [(.mk [])]) := tr_li u_p226 (treesAt_c t_p223 trs_nil)
  refine ⟨_, _, rfl, .inl ⟨_, _, t_p220, ⟨by decide +kernel, by decide +kernel⟩, t_p226, ⟨by decide +kernel, by decide +kernel⟩, fun G229 s230 => ?_⟩⟩
  have z231 := z228.trans s230
  replace t_p220 := TreeAt.same (s230) _ t_p220
  replace t_p226 := TreeAt.same (s230) _ t_p226
  refine ⟨rfl, _, rfl, iteNS (by decide +kernel) ?_⟩
  clear z213 n_p214 s_p214 u_p214 z216 t_p214 n_p217 s_p217 u_p217 z219 t_p217 n_p220 s_p220 u_p220 z222 t_p220 n_p223 s_p223 u_p223 z225 t_p223 n_p226 s_p226 u_p226 z228 t_p226 s230
  -- heads([]) != []
  refine ⟨(by show 0 ≤ sizeLine; decide), fun p232 n_p232 => ?_⟩
  have s_p232 := same_new n_p232 (.lst [])
  have u_p232 : upd G229 p232 (.lst []) p232 = some (.lst []) := upd_same
  generalize upd G229 p232 (.lst []) = G233 at s_p232 u_p232 ⊢
  have z234 := z231.trans s_p232
  have t_p232 : TreeAt G233 (.ref p232) (.mk []) := tr_li u_p232 trs_nil
  refine ⟨_, rfl, .inl ⟨_, t_p232, ⟨by decide +kernel, by decide +kernel⟩, fun G235 d236 rs_d236 n_d236 => ?_⟩⟩
  have z237 := z234.trans n_d236.1
  replace t_p232 := TreeAt.same (n_d236.1) _ t_p232
  refine ⟨(by show 0 ≤ sizeLine; decide), fun p238 n_p238 => ?_⟩
  have s_p238 := same_new n_p238 (.lst [])
  have u_p238 : upd G235 p238 (.lst []) p238 = some (.lst []) := upd_same
  generalize upd G235 p238 (.lst []) = G239 at s_p238 u_p238 ⊢
  have z240 := z237.trans s_p238
  replace t_p232 := TreeAt.same (s_p238) _ t_p232
  have m_d236 := n_d236.step s_p238
  refine ne_ways (ss := []) (us := []) (SqL.of m_d236.2.2.1) m_d236.2.2.2.1 (SqL.of u_p238) trivial ⟨_, rfl, iteNS (by decide +kernel) ?_⟩
  clear z231 n_p232 s_p232 u_p232 z234 t_p232 n_d236 z237 n_p238 s_p238 u_p238 m_d236
  -- heads([[], [[]]]) != [[0], [1, 0]]
  refine ⟨(by show 0 ≤ sizeLine; decide), fun p241 n_p241 => ?_⟩
  have s_p241 := same_new n_p241 (.lst [])
  have u_p241 : upd G239 p241 (.lst []) p241 = some (.lst []) := upd_same
  generalize upd G239 p241 (.lst []) = G242 at s_p241 u_p241 ⊢
  have z243 := z240.trans s_p241
  have t_p241 : TreeAt G242 (.ref p241) (.mk []) := tr_li u_p241 trs_nil
  refine ⟨(by show 0 ≤ sizeLine; decide), fun p244 n_p244 => ?_⟩
  have s_p244 := same_new n_p244 (.lst [])
  have u_p244 : upd G242 p244 (.lst []) p244 = some (.lst []) := upd_same
  generalize upd G242 p244 (.lst []) = G245 at s_p244 u_p244 ⊢
  have z246 := z243.trans s_p244
  replace t_p241 := TreeAt.same (s_p244) _ t_p241
  have t_p244 : TreeAt G245 (.ref p244) (.mk []) := tr_li u_p244 trs_nil
  refine ⟨(by show 1 ≤ sizeLine; decide), fun p247 n_p247 => ?_⟩
  have s_p247 := same_new n_p247 (.lst [V.ref p244])
  have u_p247 : upd G245 p247 (.lst [V.ref p244]) p247 = some (.lst [V.ref p244]) := upd_same
  generalize upd G245 p247 (.lst [V.ref p244]) = G248 at s_p247 u_p247 ⊢
  have z249 := z246.trans s_p247
  replace t_p241 := TreeAt.same (s_p247) _ t_p241
  replace t_p244 := TreeAt.same (s_p247) _ t_p244
  have t_p247 : TreeAt G248 (.ref p247) (.mk [(.mk [])]) := tr_li u_p247 (treesAt_c t_p244 trs_nil)
  refine ⟨(by show 2 ≤ sizeLine; decide), fun p250 n_p250 => ?_⟩
  have s_p250 := same_new n_p250 (.lst [V.ref p241, .ref p247])
  have u_p250 : upd G248 p250 (.lst [V.ref p241, .ref p247]) p250 = some (.lst [V.ref p241, .ref p247]) := upd_same
  generalize upd G248 p250 (.lst [V.ref p241, .ref p247]) = G251 at s_p250 u_p250 ⊢
  have z252 := z249.trans s_p250
  replace t_p241 := TreeAt.same (s_p250) _ t_p241
  replace t_p247 := TreeAt.same (s_p250) _ t_p247
  have t_p250 : TreeAt G251 (.ref p250) (.mk [(.mk []), (.mk [(.mk [])])]) := tr_li u_p250 (treesAt_c t_p241 (treesAt_c t_p247 trs_nil))
  refine ⟨_, rfl, .inl ⟨_, t_p250, ⟨by decide +kernel, by decide +kernel⟩, fun G253 d254 rs_d254 n_d254 => ?_⟩⟩
  have z255 := z252.trans n_d254.1
  replace t_p250 := TreeAt.same (n_d254.1) _ t_p250
  have hx_d254 : Same G253 G253 := Same.refl _
  refine ⟨(by show 1 ≤ sizeLine; decide), fun p256 n_p256 => ?_⟩
  have s_p256 := same_new n_p256 (.lst [V.int 0])
  have u_p256 : upd G253 p256 (.lst [V.int 0]) p256 = some (.lst [V.int 0]) := upd_same
  generalize upd G253 p256 (.lst [V.int 0]) = G257 at s_p256 u_p256 ⊢
  have z258 := z255.trans s_p256
  replace t_p250 := TreeAt.same (s_p256) _ t_p250
  have w_p256 : G257 p256 = some (.lst (([0] : List Int).map V.int)) := u_p256
  refine ⟨(by show 2 ≤ sizeLine; decide), fun p259 n_p259 => ?_⟩
  have s_p259 := same_new n_p259 (.lst [V.int 1, .int 0])
  have u_p259 : upd G257 p259 (.lst [V.int 1, .int 0]) p259 = some (.lst [V.int 1, .int 0]) := upd_same
  generalize upd G257 p259 (.lst [V.int 1, .int 0]) = G260 at s_p259 u_p259 ⊢
  have z261 := z258.trans s_p259
  replace t_p250 := TreeAt.same (s_p259) _ t_p250
  replace w_p256 := s_p259 _ _ w_p256
  have w_p259 : G260 p259 = some (.lst (([1, 0] : List Int).map V.int)) := u_p259
  refine ⟨(by show 2 ≤ sizeLine; decide), fun p262 n_p262 => ?_⟩
  have s_p262 := same_new n_p262 (.lst [V.ref p256, .ref p259])
  have u_p262 : upd G260 p262 (.lst [V.ref p256, .ref p259]) p262 = some (.lst [V.ref p256, .ref p259]) := upd_same
  generalize upd G260 p262 (.lst [V.ref p256, .ref p259]) = G263 at s_p262 u_p262 ⊢
  have z264 := z261.trans s_p262
  replace t_p250 := TreeAt.same (s_p262) _ t_p250
  replace w_p256 := s_p262 _ _ w_p256
  replace w_p259 := s_p262 _ _ w_p259
  have m_d254 := n_d254.step ((s_p256.trans s_p259).trans s_p262)
  refine ne_ways (ss := [p256, p259]) (us := [[0], [1, 0]]) (SqL.of m_d254.2.2.1) m_d254.2.2.2.1 (SqL.of u_p262) ⟨w_p256, w_p259, trivial⟩ ⟨_, rfl, iteNS (by decide +kernel) ?_⟩
  clear z240 n_p241 s_p241 u_p241 z243 t_p241 n_p244 s_p244 u_p244 z246 t_p244 n_p247 s_p247 u_p247 z249 t_p247 n_p250 s_p250 u_p250 z252 t_p250 n_d254 z255 hx_d254 n_p256 s_p256 u_p256 z258 w_p256 n_p259 s_p259 u_p259 z261 w_p259 n_p262 s_p262 u_p262 m_d254
  -- cut([[]], [0], 5) != []
  refine ⟨(by show 0 ≤ sizeLine; decide), fun p265 n_p265 => ?_⟩
  have s_p265 := same_new n_p265 (.lst [])
  have u_p265 : upd G263 p265 (.lst []) p265 = some (.lst []) := upd_same
  generalize upd G263 p265 (.lst []) = G266 at s_p265 u_p265 ⊢
  have z267 := z264.trans s_p265
  have t_p265 : TreeAt G266 (.ref p265) (.mk []) := tr_li u_p265 trs_nil
  refine ⟨(by show 1 ≤ sizeLine; decide), fun p268 n_p268 => ?_⟩
  have s_p268 := same_new n_p268 (.lst [V.ref p265])
  have u_p268 : upd G266 p268 (.lst [V.ref p265]) p268 = some (.lst [V.ref p265]) := upd_same
  generalize upd G266 p268 (.lst [V.ref p265]) = G269 at s_p268 u_p268 ⊢
  have z270 := z267.trans s_p268
  replace t_p265 := TreeAt.same (s_p268) _ t_p265
  have t_p268 : TreeAt G269 (.ref p268) (.mk [(.mk [])]) := tr_li u_p268 (treesAt_c t_p265 trs_nil)
  refine ⟨(by show 1 ≤ sizeLine; decide), fun p271 n_p271 => ?_⟩
  have s_p271 := same_new n_p271 (.lst [V.int 0])
  have u_p271 : upd G269 p271 (.lst [V.int 0]) p271 = some (.lst [V.int 0]) := upd_same
  generalize upd G269 p271 (.lst [V.int 0]) = G272 at s_p271 u_p271 ⊢
  have z273 := z270.trans s_p271
  replace t_p268 := TreeAt.same (s_p271) _ t_p268
  have w_p271 : G272 p271 = some (.lst (([0] : List Int).map V.int)) := u_p271
  refine ⟨_, _, .int ((5 : Nat) : Int), rfl, .inl ⟨_, t_p268, ⟨by decide +kernel, by decide +kernel⟩, .inl ⟨_, [0], rfl, w_p271, by decide +kernel, .inl ⟨5, rfl, small 5 (by decide), .inl ⟨_, Cut.root rfl, by decide +kernel, fun G274 r275 n_r275 => ?_⟩⟩⟩⟩⟩
  have z276 := z273.trans n_r275.1
  replace t_p268 := TreeAt.same (n_r275.1) _ t_p268
  replace w_p271 := n_r275.1 _ _ w_p271
  have t_r275 := n_r275.at_
  refine ⟨(by show 0 ≤ sizeLine; decide), fun p277 n_p277 => ?_⟩
  have s_p277 := same_new n_p277 (.lst [])
  have u_p277 : upd G274 p277 (.lst []) p277 = some (.lst []) := upd_same
  generalize upd G274 p277 (.lst []) = G278 at s_p277 u_p277 ⊢
  have z279 := z276.trans s_p277
  replace t_p268 := TreeAt.same (s_p277) _ t_p268
  replace t_r275 := TreeAt.same (s_p277) _ t_r275
  replace w_p271 := s_p277 _ _ w_p271
  have t_p277 : TreeAt G278 (.ref p277) (.mk []) := tr_li u_p277 trs_nil
  refine ne_trees t_r275 t_p277 (by decide +kernel) (by decide +kernel) ⟨_, rfl, iteNS (by decide +kernel) ?_⟩
  clear z264 n_p265 s_p265 u_p265 z267 t_p265 n_p268 s_p268 u_p268 z270 t_p268 n_p271 s_p271 u_p271 z273 w_p271 n_r275 z276 t_r275 n_p277 s_p277 u_p277 t_p277
  -- cut([[[], []]], [0, 0], 2) != [[[]], [[]], [[]]]
  refine ⟨(by show 0 ≤ sizeLine; decide), fun p280 n_p280 => ?_⟩
  have s_p280 := same_new n_p280 (.lst [])
  have u_p280 : upd G278 p280 (.lst []) p280 = some (.lst []) := upd_same
  generalize upd G278 p280 (.lst []) = G281 at s_p280 u_p280 ⊢
  have z282 := z279.trans s_p280
  have t_p280 : TreeAt G281 (.ref p280) (.mk []) := tr_li u_p280 trs_nil
  refine ⟨(by show 0 ≤ sizeLine; decide), fun p283 n_p283 => ?_⟩
  have s_p283 := same_new n_p283 (.lst [])
  have u_p283 : upd G281 p283 (.lst []) p283 = some (.lst []) := upd_same
  generalize upd G281 p283 (.lst []) = G284 at s_p283 u_p283 ⊢
  have z285 := z282.trans s_p283
  replace t_p280 := TreeAt.same (s_p283) _ t_p280
  have t_p283 : TreeAt G284 (.ref p283) (.mk []) := tr_li u_p283 trs_nil
  refine ⟨(by show 2 ≤ sizeLine; decide), fun p286 n_p286 => ?_⟩
  have s_p286 := same_new n_p286 (.lst [V.ref p280, .ref p283])
  have u_p286 : upd G284 p286 (.lst [V.ref p280, .ref p283]) p286 = some (.lst [V.ref p280, .ref p283]) := upd_same
  generalize upd G284 p286 (.lst [V.ref p280, .ref p283]) = G287 at s_p286 u_p286 ⊢
  have z288 := z285.trans s_p286
  replace t_p280 := TreeAt.same (s_p286) _ t_p280
  replace t_p283 := TreeAt.same (s_p286) _ t_p283
  have t_p286 : TreeAt G287 (.ref p286) (.mk [(.mk []), (.mk [])]) := tr_li u_p286 (treesAt_c t_p280 (treesAt_c t_p283 trs_nil))
  refine ⟨(by show 1 ≤ sizeLine; decide), fun p289 n_p289 => ?_⟩
  have s_p289 := same_new n_p289 (.lst [V.ref p286])
  have u_p289 : upd G287 p289 (.lst [V.ref p286]) p289 = some (.lst [V.ref p286]) := upd_same
  generalize upd G287 p289 (.lst [V.ref p286]) = G290 at s_p289 u_p289 ⊢
  have z291 := z288.trans s_p289
  replace t_p286 := TreeAt.same (s_p289) _ t_p286
  have t_p289 : TreeAt G290 (.ref p289) (.mk [(.mk [(.mk []), (.mk [])])]) := tr_li u_p289 (treesAt_c t_p286 trs_nil)
  refine ⟨(by show 2 ≤ sizeLine; decide), fun p292 n_p292 => ?_⟩
  have s_p292 := same_new n_p292 (.lst [V.int 0, .int 0])
  have u_p292 : upd G290 p292 (.lst [V.int 0, .int 0]) p292 = some (.lst [V.int 0, .int 0]) := upd_same
  generalize upd G290 p292 (.lst [V.int 0, .int 0]) = G293 at s_p292 u_p292 ⊢
  have z294 := z291.trans s_p292
  replace t_p289 := TreeAt.same (s_p292) _ t_p289
  have w_p292 : G293 p292 = some (.lst (([0, 0] : List Int).map V.int)) := u_p292
  refine ⟨_, _, .int ((2 : Nat) : Int), rfl, .inl ⟨_, t_p289, ⟨by decide +kernel, by decide +kernel⟩, .inl ⟨_, [0, 0], rfl, w_p292, by decide +kernel, .inl ⟨2, rfl, small 2 (by decide), .inl ⟨_, Cut.up (w := []) (i := 0) (j := 0) (n := 2) (cs := [(.mk [(.mk []), (.mk [])])]) (bs := [(.mk []), (.mk [])]) (subT_nil _) rfl rfl, by decide +kernel, fun G295 r296 n_r296 => ?_⟩⟩⟩⟩⟩
  have z297 := z294.trans n_r296.1
  replace t_p289 := TreeAt.same (n_r296.1) _ t_p289
  replace w_p292 := n_r296.1 _ _ w_p292
  have t_r296 := n_r296.at_
  refine ⟨(by show 0 ≤ sizeLine; decide), fun p298 n_p298 => ?_⟩
  have s_p298 := same_new n_p298 (.lst [])
  have u_p298 : upd G295 p298 (.lst []) p298 = some (.lst []) := upd_same
  generalize upd G295 p298 (.lst []) = G299 at s_p298 u_p298 ⊢
  have z300 := z297.trans s_p298
  replace t_p289 := TreeAt.same (s_p298) _ t_p289
  replace t_r296 := TreeAt.same (s_p298) _ t_r296
  replace w_p292 := s_p298 _ _ w_p292
  have t_p298 : TreeAt G299 (.ref p298) (.mk []) := tr_li u_p298 trs_nil
  refine ⟨(by show 1 ≤ sizeLine; decide), fun p301 n_p301 => ?_⟩
  have s_p301 := same_new n_p301 (.lst [V.ref p298])
  have u_p301 : upd G299 p301 (.lst [V.ref p298]) p301 = some (.lst [V.ref p298]) := upd_same
  generalize upd G299 p301 (.lst [V.ref p298]) = G302 at s_p301 u_p301 ⊢
  have z303 := z300.trans s_p301
  replace t_p289 := TreeAt.same (s_p301) _ t_p289
  replace t_r296 := TreeAt.same (s_p301) _ t_r296
  replace t_p298 := TreeAt.same (s_p301) _ t_p298
  replace w_p292 := s_p301 _ _ w_p292
  have t_p301 : TreeAt G302 (.ref p301) (.mk [(.mk [])]) := tr_li u_p301 (treesAt_c t_p298 trs_nil)
  refine ⟨(by show 0 ≤ sizeLine; decide), fun p304 n_p304 => ?_⟩
  have s_p304 := same_new n_p304 (.lst [])
  have u_p304 : upd G302 p304 (.lst []) p304 = some (.lst []) := upd_same
  generalize upd G302 p304 (.lst []) = G305 at s_p304 u_p304 ⊢
  have z306 := z303.trans s_p304
  replace t_p289 := TreeAt.same (s_p304) _ t_p289
  replace t_r296 := TreeAt.same (s_p304) _ t_r296
  replace t_p301 := TreeAt.same (s_p304) _ t_p301
  replace w_p292 := s_p304 _ _ w_p292
  have t_p304 : TreeAt G305 (.ref p304) (.mk []) := tr_li u_p304 trs_nil
  refine ⟨(by show 1 ≤ sizeLine; decide), fun p307 n_p307 => ?_⟩
  have s_p307 := same_new n_p307 (.lst [V.ref p304])
  have u_p307 : upd G305 p307 (.lst [V.ref p304]) p307 = some (.lst [V.ref p304]) := upd_same
  generalize upd G305 p307 (.lst [V.ref p304]) = G308 at s_p307 u_p307 ⊢
  have z309 := z306.trans s_p307
  replace t_p289 := TreeAt.same (s_p307) _ t_p289
  replace t_r296 := TreeAt.same (s_p307) _ t_r296
  replace t_p301 := TreeAt.same (s_p307) _ t_p301
  replace t_p304 := TreeAt.same (s_p307) _ t_p304
  replace w_p292 := s_p307 _ _ w_p292
  have t_p307 : TreeAt G308 (.ref p307) (.mk [(.mk [])]) := tr_li u_p307 (treesAt_c t_p304 trs_nil)
  refine ⟨(by show 0 ≤ sizeLine; decide), fun p310 n_p310 => ?_⟩
  have s_p310 := same_new n_p310 (.lst [])
  have u_p310 : upd G308 p310 (.lst []) p310 = some (.lst []) := upd_same
  generalize upd G308 p310 (.lst []) = G311 at s_p310 u_p310 ⊢
  have z312 := z309.trans s_p310
  replace t_p289 := TreeAt.same (s_p310) _ t_p289
  replace t_r296 := TreeAt.same (s_p310) _ t_r296
  replace t_p301 := TreeAt.same (s_p310) _ t_p301
  replace t_p307 := TreeAt.same (s_p310) _ t_p307
  replace w_p292 := s_p310 _ _ w_p292
  have t_p310 : TreeAt G311 (.ref p310) (.mk []) := tr_li u_p310 trs_nil
  refine ⟨(by show 1 ≤ sizeLine; decide), fun p313 n_p313 => ?_⟩
  have s_p313 := same_new n_p313 (.lst [V.ref p310])
  have u_p313 : upd G311 p313 (.lst [V.ref p310]) p313 = some (.lst [V.ref p310]) := upd_same
  generalize upd G311 p313 (.lst [V.ref p310]) = G314 at s_p313 u_p313 ⊢
  have z315 := z312.trans s_p313
  replace t_p289 := TreeAt.same (s_p313) _ t_p289
  replace t_r296 := TreeAt.same (s_p313) _ t_r296
  replace t_p301 := TreeAt.same (s_p313) _ t_p301
  replace t_p307 := TreeAt.same (s_p313) _ t_p307
  replace t_p310 := TreeAt.same (s_p313) _ t_p310
  replace w_p292 := s_p313 _ _ w_p292
  have t_p313 : TreeAt G314 (.ref p313) (.mk [(.mk [])]) := tr_li u_p313 (treesAt_c t_p310 trs_nil)
  refine ⟨(by show 3 ≤ sizeLine; decide), fun p316 n_p316 => ?_⟩
  have s_p316 := same_new n_p316 (.lst [V.ref p301, .ref p307, .ref p313])
  have u_p316 : upd G314 p316 (.lst [V.ref p301, .ref p307, .ref p313]) p316 = some (.lst [V.ref p301, .ref p307, .ref p313]) := upd_same
  generalize upd G314 p316 (.lst [V.ref p301, .ref p307, .ref p313]) = G317 at s_p316 u_p316 ⊢
  have z318 := z315.trans s_p316
  replace t_p289 := TreeAt.same (s_p316) _ t_p289
  replace t_r296 := TreeAt.same (s_p316) _ t_r296
  replace t_p301 := TreeAt.same (s_p316) _ t_p301
  replace t_p307 := TreeAt.same (s_p316) _ t_p307
  replace t_p313 := TreeAt.same (s_p316) _ t_p313
  replace w_p292 := s_p316 _ _ w_p292
  have t_p316 : TreeAt G317 (.ref p316) (.mk [(.mk [(.mk [])]), (.mk [(.mk [])]), (.mk [(.mk [])])]) := tr_li u_p316 (treesAt_c t_p301 (treesAt_c t_p307 (treesAt_c t_p313 trs_nil)))
  refine ne_trees t_r296 t_p316 (by decide +kernel) (by decide +kernel) ⟨_, rfl, iteNS (by decide +kernel) ?_⟩
  clear z279 n_p280 s_p280 u_p280 z282 t_p280 n_p283 s_p283 u_p283 z285 t_p283 n_p286 s_p286 u_p286 z288 t_p286 n_p289 s_p289 u_p289 z291 t_p289 n_p292 s_p292 u_p292 z294 w_p292 n_r296 z297 t_r296 n_p298 s_p298 u_p298 z300 t_p298 n_p301 s_p301 u_p301 z303 t_p301 n_p304 s_p304 u_p304 z306 t_p304 n_p307 s_p307 u_p307 z309 t_p307 n_p310 s_p310 u_p310 z312 t_p310 n_p313 s_p313 u_p313 z315 t_p313 n_p316 s_p316 u_p316 t_p316
  -- cut([[[], []]], [0, 1], 0) != [[[]]]
  refine ⟨(by show 0 ≤ sizeLine; decide), fun p319 n_p319 => ?_⟩
  have s_p319 := same_new n_p319 (.lst [])
  have u_p319 : upd G317 p319 (.lst []) p319 = some (.lst []) := upd_same
  generalize upd G317 p319 (.lst []) = G320 at s_p319 u_p319 ⊢
  have z321 := z318.trans s_p319
  have t_p319 : TreeAt G320 (.ref p319) (.mk []) := tr_li u_p319 trs_nil
  refine ⟨(by show 0 ≤ sizeLine; decide), fun p322 n_p322 => ?_⟩
  have s_p322 := same_new n_p322 (.lst [])
  have u_p322 : upd G320 p322 (.lst []) p322 = some (.lst []) := upd_same
  generalize upd G320 p322 (.lst []) = G323 at s_p322 u_p322 ⊢
  have z324 := z321.trans s_p322
  replace t_p319 := TreeAt.same (s_p322) _ t_p319
  have t_p322 : TreeAt G323 (.ref p322) (.mk []) := tr_li u_p322 trs_nil
  refine ⟨(by show 2 ≤ sizeLine; decide), fun p325 n_p325 => ?_⟩
  have s_p325 := same_new n_p325 (.lst [V.ref p319, .ref p322])
  have u_p325 : upd G323 p325 (.lst [V.ref p319, .ref p322]) p325 = some (.lst [V.ref p319, .ref p322]) := upd_same
  generalize upd G323 p325 (.lst [V.ref p319, .ref p322]) = G326 at s_p325 u_p325 ⊢
  have z327 := z324.trans s_p325
  replace t_p319 := TreeAt.same (s_p325) _ t_p319
  replace t_p322 := TreeAt.same (s_p325) _ t_p322
  have t_p325 : TreeAt G326 (.ref p325) (.mk [(.mk []), (.mk [])]) := tr_li u_p325 (treesAt_c t_p319 (treesAt_c t_p322 trs_nil))
  refine ⟨(by show 1 ≤ sizeLine; decide), fun p328 n_p328 => ?_⟩
  have s_p328 := same_new n_p328 (.lst [V.ref p325])
  have u_p328 : upd G326 p328 (.lst [V.ref p325]) p328 = some (.lst [V.ref p325]) := upd_same
  generalize upd G326 p328 (.lst [V.ref p325]) = G329 at s_p328 u_p328 ⊢
  have z330 := z327.trans s_p328
  replace t_p325 := TreeAt.same (s_p328) _ t_p325
  have t_p328 : TreeAt G329 (.ref p328) (.mk [(.mk [(.mk []), (.mk [])])]) := tr_li u_p328 (treesAt_c t_p325 trs_nil)
  refine ⟨(by show 2 ≤ sizeLine; decide), fun p331 n_p331 => ?_⟩
  have s_p331 := same_new n_p331 (.lst [V.int 0, .int 1])
  have u_p331 : upd G329 p331 (.lst [V.int 0, .int 1]) p331 = some (.lst [V.int 0, .int 1]) := upd_same
  generalize upd G329 p331 (.lst [V.int 0, .int 1]) = G332 at s_p331 u_p331 ⊢
  have z333 := z330.trans s_p331
  replace t_p328 := TreeAt.same (s_p331) _ t_p328
  have w_p331 : G332 p331 = some (.lst (([0, 1] : List Int).map V.int)) := u_p331
  refine ⟨_, _, .int ((0 : Nat) : Int), rfl, .inl ⟨_, t_p328, ⟨by decide +kernel, by decide +kernel⟩, .inl ⟨_, [0, 1], rfl, w_p331, by decide +kernel, .inl ⟨0, rfl, small 0 (by decide), .inl ⟨_, Cut.up (w := []) (i := 1) (j := 0) (n := 0) (cs := [(.mk [(.mk []), (.mk [])])]) (bs := [(.mk []), (.mk [])]) (subT_nil _) rfl rfl, by decide +kernel, fun G334 r335 n_r335 => ?_⟩⟩⟩⟩⟩
  have z336 := z333.trans n_r335.1
  replace t_p328 := TreeAt.same (n_r335.1) _ t_p328
  replace w_p331 := n_r335.1 _ _ w_p331
  have t_r335 := n_r335.at_
  refine ⟨(by show 0 ≤ sizeLine; decide), fun p337 n_p337 => ?_⟩
  have s_p337 := same_new n_p337 (.lst [])
  have u_p337 : upd G334 p337 (.lst []) p337 = some (.lst []) := upd_same
  generalize upd G334 p337 (.lst []) = G338 at s_p337 u_p337 ⊢
  have z339 := z336.trans s_p337
  replace t_p328 := TreeAt.same (s_p337) _ t_p328
  replace t_r335 := TreeAt.same (s_p337) _ t_r335
  replace w_p331 := s_p337 _ _ w_p331
  have t_p337 : TreeAt G338 (.ref p337) (.mk []) := tr_li u_p337 trs_nil
  refine ⟨(by show 1 ≤ sizeLine; decide), fun p340 n_p340 => ?_⟩
  have s_p340 := same_new n_p340 (.lst [V.ref p337])
  have u_p340 : upd G338 p340 (.lst [V.ref p337]) p340 = some (.lst [V.ref p337]) := upd_same
  generalize upd G338 p340 (.lst [V.ref p337]) = G341 at s_p340 u_p340 ⊢
  have z342 := z339.trans s_p340
  replace t_p328 := TreeAt.same (s_p340) _ t_p328
  replace t_r335 := TreeAt.same (s_p340) _ t_r335
  replace t_p337 := TreeAt.same (s_p340) _ t_p337
  replace w_p331 := s_p340 _ _ w_p331
  have t_p340 : TreeAt G341 (.ref p340) (.mk [(.mk [])]) := tr_li u_p340 (treesAt_c t_p337 trs_nil)
  refine ⟨(by show 1 ≤ sizeLine; decide), fun p343 n_p343 => ?_⟩
  have s_p343 := same_new n_p343 (.lst [V.ref p340])
  have u_p343 : upd G341 p343 (.lst [V.ref p340]) p343 = some (.lst [V.ref p340]) := upd_same
  generalize upd G341 p343 (.lst [V.ref p340]) = G344 at s_p343 u_p343 ⊢
  have z345 := z342.trans s_p343
  replace t_p328 := TreeAt.same (s_p343) _ t_p328
  replace t_r335 := TreeAt.same (s_p343) _ t_r335
  replace t_p340 := TreeAt.same (s_p343) _ t_p340
  replace w_p331 := s_p343 _ _ w_p331
  have t_p343 : TreeAt G344 (.ref p343) (.mk [(.mk [(.mk [])])]) := tr_li u_p343 (treesAt_c t_p340 trs_nil)
  refine ne_trees t_r335 t_p343 (by decide +kernel) (by decide +kernel) ⟨_, rfl, iteNS (by decide +kernel) ?_⟩
  clear z318 n_p319 s_p319 u_p319 z321 t_p319 n_p322 s_p322 u_p322 z324 t_p322 n_p325 s_p325 u_p325 z327 t_p325 n_p328 s_p328 u_p328 z330 t_p328 n_p331 s_p331 u_p331 z333 w_p331 n_r335 z336 t_r335 n_p337 s_p337 u_p337 z339 t_p337 n_p340 s_p340 u_p340 z342 t_p340 n_p343 s_p343 u_p343 t_p343
  -- cut([[[[]]]], [0, 0, 0], 3) != [[[], [], [], []]]
  refine ⟨(by show 0 ≤ sizeLine; decide), fun p346 n_p346 => ?_⟩
  have s_p346 := same_new n_p346 (.lst [])
  have u_p346 : upd G344 p346 (.lst []) p346 = some (.lst []) := upd_same
  generalize upd G344 p346 (.lst []) = G347 at s_p346 u_p346 ⊢
  have z348 := z345.trans s_p346
  have t_p346 : TreeAt G347 (.ref p346) (.mk []) := tr_li u_p346 trs_nil
  refine ⟨(by show 1 ≤ sizeLine; decide), fun p349 n_p349 => ?_⟩
  have s_p349 := same_new n_p349 (.lst [V.ref p346])
  have u_p349 : upd G347 p349 (.lst [V.ref p346]) p349 = some (.lst [V.ref p346]) := upd_same
  generalize upd G347 p349 (.lst [V.ref p346]) = G350 at s_p349 u_p349 ⊢
  have z351 := z348.trans s_p349
  replace t_p346 := TreeAt.same (s_p349) _ t_p346
  have t_p349 : TreeAt G350 (.ref p349) (.mk [(.mk [])]) := tr_li u_p349 (treesAt_c t_p346 trs_nil)
  refine ⟨(by show 1 ≤ sizeLine; decide), fun p352 n_p352 => ?_⟩
  have s_p352 := same_new n_p352 (.lst [V.ref p349])
  have u_p352 : upd G350 p352 (.lst [V.ref p349]) p352 = some (.lst [V.ref p349]) := upd_same
  generalize upd G350 p352 (.lst [V.ref p349]) = G353 at s_p352 u_p352 ⊢
  have z354 := z351.trans s_p352
  replace t_p349 := TreeAt.same (s_p352) _ t_p349
  have t_p352 : TreeAt G353 (.ref p352) (.mk [(.mk [(.mk [])])]) := tr_li u_p352 (treesAt_c t_p349 trs_nil)
  refine ⟨(by show 1 ≤ sizeLine; decide), fun p355 n_p355 => ?_⟩
  have s_p355 := same_new n_p355 (.lst [V.ref p352])
  have u_p355 : upd G353 p355 (.lst [V.ref p352]) p355 = some (.lst [V.ref p352]) := upd_same
  generalize upd G353 p355 (.lst [V.ref p352]) = G356 at s_p355 u_p355 ⊢
  have z357 := z354.trans s_p355
  replace t_p352 := TreeAt.same (s_p355) _ t_p352
  have t_p355 : TreeAt G356 (.ref p355) (.mk [(.mk [(.mk [(.mk [])])])]) := tr_li u_p355 (treesAt_c t_p352 trs_nil)
  refine ⟨(by show 3 ≤ sizeLine; decide), fun p358 n_p358 => ?_⟩
  have s_p358 := same_new n_p358 (.lst [V.int 0, .int 0, .int 0])
  have u_p358 : upd G356 p358 (.lst [V.int 0, .int 0, .int 0]) p358 = some (.lst [V.int 0, .int 0, .int 0]) := upd_same
  generalize upd G356 p358 (.lst [V.int 0, .int 0, .int 0]) = G359 at s_p358 u_p358 ⊢
  have z360 := z357.trans s_p358
  replace t_p355 := TreeAt.same (s_p358) _ t_p355
  have w_p358 : G359 p358 = some (.lst (([0, 0, 0] : List Int).map V.int)) := u_p358
  refine ⟨_, _, .int ((3 : Nat) : Int), rfl, .inl ⟨_, t_p355, ⟨by decide +kernel, by decide +kernel⟩, .inl ⟨_, [0, 0, 0], rfl, w_p358, by decide +kernel, .inl ⟨3, rfl, small 3 (by decide), .inl ⟨_, Cut.up (w := [0]) (i := 0) (j := 0) (n := 3) (cs := [(.mk [(.mk [])])]) (bs := [(.mk [])]) ((by rw [subT_cons (b := (.mk [(.mk [(.mk [])])])) rfl, subT_nil])) rfl rfl, by decide +kernel, fun G361 r362 n_r362 => ?_⟩⟩⟩⟩⟩
  have z363 := z360.trans n_r362.1
  replace t_p355 := TreeAt.same (n_r362.1) _ t_p355
  replace w_p358 := n_r362.1 _ _ w_p358
  have t_r362 := n_r362.at_
  refine ⟨(by show 0 ≤ sizeLine; decide), fun p364 n_p364 => ?_⟩
  have s_p364 := same_new n_p364 (.lst [])
  have u_p364 : upd G361 p364 (.lst []) p364 = some (.lst []) := upd_same
  generalize upd G361 p364 (.lst []) = G365 at s_p364 u_p364 ⊢
  have z366 := z363.trans s_p364
  replace t_p355 := TreeAt.same (s_p364) _ t_p355
  replace t_r362 := TreeAt.same (s_p364) _ t_r362
  replace w_p358 := s_p364 _ _ w_p358
  have t_p364 : TreeAt G365 (.ref p364) (.mk []) := tr_li u_p364 trs_nil
  refine ⟨(by show 0 ≤ sizeLine; decide), fun p367 n_p367 => ?_⟩
  have s_p367 := same_new n_p367 (.lst [])
  have u_p367 : upd G365 p367 (.lst []) p367 = some (.lst []) := upd_same
  generalize upd G365 p367 (.lst []) = G368 at s_p367 u_p367 ⊢
  have z369 := z366.trans s_p367
  replace t_p355 := TreeAt.same (s_p367) _ t_p355
  replace t_r362 := TreeAt.same (s_p367) _ t_r362
  replace t_p364 := TreeAt.same (s_p367) _ t_p364
  replace w_p358 := s_p367 _ _ w_p358
  have t_p367 : TreeAt G368 (.ref p367) (.mk []) := tr_li u_p367 trs_nil
  refine ⟨(by show 0 ≤ sizeLine; decide), fun p370 n_p370 => ?_⟩
  have s_p370 := same_new n_p370 (.lst [])
  have u_p370 : upd G368 p370 (.lst []) p370 = some (.lst []) := upd_same
  generalize upd G368 p370 (.lst []) = G371 at s_p370 u_p370 ⊢
  have z372 := z369.trans s_p370
  replace t_p355 := TreeAt.same (s_p370) _ t_p355
  replace t_r362 := TreeAt.same (s_p370) _ t_r362
  replace t_p364 := TreeAt.same (s_p370) _ t_p364
  replace t_p367 := TreeAt.same (s_p370) _ t_p367
  replace w_p358 := s_p370 _ _ w_p358
  have t_p370 : TreeAt G371 (.ref p370) (.mk []) := tr_li u_p370 trs_nil
  refine ⟨(by show 0 ≤ sizeLine; decide), fun p373 n_p373 => ?_⟩
  have s_p373 := same_new n_p373 (.lst [])
  have u_p373 : upd G371 p373 (.lst []) p373 = some (.lst []) := upd_same
  generalize upd G371 p373 (.lst []) = G374 at s_p373 u_p373 ⊢
  have z375 := z372.trans s_p373
  replace t_p355 := TreeAt.same (s_p373) _ t_p355
  replace t_r362 := TreeAt.same (s_p373) _ t_r362
  replace t_p364 := TreeAt.same (s_p373) _ t_p364
  replace t_p367 := TreeAt.same (s_p373) _ t_p367
  replace t_p370 := TreeAt.same (s_p373) _ t_p370
  replace w_p358 := s_p373 _ _ w_p358
  have t_p373 : TreeAt G374 (.ref p373) (.mk []) := tr_li u_p373 trs_nil
  refine ⟨(by show 4 ≤ sizeLine; decide), fun p376 n_p376 => ?_⟩
  have s_p376 := same_new n_p376 (.lst [V.ref p364, .ref p367, .ref p370, .ref p373])
  have u_p376 : upd G374 p376 (.lst [V.ref p364, .ref p367, .ref p370, .ref p373]) p376 = some (.lst [V.ref p364, .ref p367, .ref p370, .ref p373]) := upd_same
  generalize upd G374 p376 (.lst [V.ref p364, .ref p367, .ref p370, .ref p373]) = G377 at s_p376 u_p376 ⊢
  have z378 := z375.trans s_p376
  replace t_p355 := TreeAt.same (s_p376) _ t_p355
  replace t_r362 := TreeAt.same (s_p376) _ t_r362
  replace t_p364 := TreeAt.same (s_p376) _ t_p364
  replace t_p367 := TreeAt.same (s_p376) _ t_p367
  replace t_p370 := TreeAt.same (s_p376) _ t_p370
  replace t_p373 := TreeAt.same (s_p376) _ t_p373
  replace w_p358 := s_p376 _ _ w_p358
  have t_p376 : TreeAt G377 (.ref p376) (.mk [(.mk []), (.mk []), (.mk []), (.mk [])]) := tr_li u_p376 (treesAt_c t_p364 (treesAt_c t_p367 (treesAt_c t_p370 (treesAt_c t_p373 trs_nil))))
  refine ⟨(by show 1 ≤ sizeLine; decide), fun p379 n_p379 => ?_⟩
  have s_p379 := same_new n_p379 (.lst [V.ref p376])
  have u_p379 : upd G377 p379 (.lst [V.ref p376]) p379 = some (.lst [V.ref p376]) := upd_same
  generalize upd G377 p379 (.lst [V.ref p376]) = G380 at s_p379 u_p379 ⊢
  have z381 := z378.trans s_p379
  replace t_p355 := TreeAt.same (s_p379) _ t_p355
  replace t_r362 := TreeAt.same (s_p379) _ t_r362
  replace t_p376 := TreeAt.same (s_p379) _ t_p376
  replace w_p358 := s_p379 _ _ w_p358
  have t_p379 : TreeAt G380 (.ref p379) (.mk [(.mk [(.mk []), (.mk []), (.mk []), (.mk [])])]) := tr_li u_p379 (treesAt_c t_p376 trs_nil)
  refine ne_trees t_r362 t_p379 (by decide +kernel) (by decide +kernel) ⟨_, rfl, iteNS (by decide +kernel) ?_⟩
  clear z345 n_p346 s_p346 u_p346 z348 t_p346 n_p349 s_p349 u_p349 z351 t_p349 n_p352 s_p352 u_p352 z354 t_p352 n_p355 s_p355 u_p355 z357 t_p355 n_p358 s_p358 u_p358 z360 w_p358 n_r362 z363 t_r362 n_p364 s_p364 u_p364 z366 t_p364 n_p367 s_p367 u_p367 z369 t_p367 n_p370 s_p370 u_p370 z372 t_p370 n_p373 s_p373 u_p373 z375 t_p373 n_p376 s_p376 u_p376 z378 t_p376 n_p379 s_p379 u_p379 t_p379
  -- cut([[], [[]]], [1, 0], 1) != [[], [], []]
  refine ⟨(by show 0 ≤ sizeLine; decide), fun p382 n_p382 => ?_⟩
  have s_p382 := same_new n_p382 (.lst [])
  have u_p382 : upd G380 p382 (.lst []) p382 = some (.lst []) := upd_same
  generalize upd G380 p382 (.lst []) = G383 at s_p382 u_p382 ⊢
  have z384 := z381.trans s_p382
  have t_p382 : TreeAt G383 (.ref p382) (.mk []) := tr_li u_p382 trs_nil
  refine ⟨(by show 0 ≤ sizeLine; decide), fun p385 n_p385 => ?_⟩
  have s_p385 := same_new n_p385 (.lst [])
  have u_p385 : upd G383 p385 (.lst []) p385 = some (.lst []) := upd_same
  generalize upd G383 p385 (.lst []) = G386 at s_p385 u_p385 ⊢
  have z387 := z384.trans s_p385
  replace t_p382 := TreeAt.same (s_p385) _ t_p382
  have t_p385 : TreeAt G386 (.ref p385) (.mk []) := tr_li u_p385 trs_nil
  refine ⟨(by show 1 ≤ sizeLine; decide), fun p388 n_p388 => ?_⟩
  have s_p388 := same_new n_p388 (.lst [V.ref p385])
  have u_p388 : upd G386 p388 (.lst [V.ref p385]) p388 = some (.lst [V.ref p385]) := upd_same
  generalize upd G386 p388 (.lst [V.ref p385]) = G389 at s_p388 u_p388 ⊢
  have z390 := z387.trans s_p388
  replace t_p382 := TreeAt.same (s_p388) _ t_p382
  replace t_p385 := TreeAt.same (s_p388) _ t_p385
  have t_p388 : TreeAt G389 (.ref p388) (.mk [(.mk [])]) := tr_li u_p388 (treesAt_c t_p385 trs_nil)
  refine ⟨(by show 2 ≤ sizeLine; decide), fun p391 n_p391 => ?_⟩
  have s_p391 := same_new n_p391 (.lst [V.ref p382, .ref p388])
  have u_p391 : upd G389 p391 (.lst [V.ref p382, .ref p388]) p391 = some (.lst [V.ref p382, .ref p388]) := upd_same
  generalize upd G389 p391 (.lst [V.ref p382, .ref p388]) = G392 at s_p391 u_p391 ⊢
  have z393 := z390.trans s_p391
  replace t_p382 := TreeAt.same (s_p391) _ t_p382
  replace t_p388 := TreeAt.same (s_p391) _ t_p388
  have t_p391 : TreeAt G392 (.ref p391) (.mk [(.mk []), (.mk [(.mk [])])]) := tr_li u_p391 (treesAt_c t_p382 (treesAt_c t_p388 trs_nil))
  refine ⟨(by show 2 ≤ sizeLine; decide), fun p394 n_p394 => ?_⟩
  have s_p394 := same_new n_p394 (.lst [V.int 1, .int 0])
  have u_p394 : upd G392 p394 (.lst [V.int 1, .int 0]) p394 = some (.lst [V.int 1, .int 0]) := upd_same
  generalize upd G392 p394 (.lst [V.int 1, .int 0]) = G395 at s_p394 u_p394 ⊢
  have z396 := z393.trans s_p394
  replace t_p391 := TreeAt.same (s_p394) _ t_p391
  have w_p394 : G395 p394 = some (.lst (([1, 0] : List Int).map V.int)) := u_p394
  refine ⟨_, _, .int ((1 : Nat) : Int), rfl, .inl ⟨_, t_p391, ⟨by decide +kernel, by decide +kernel⟩, .inl ⟨_, [1, 0], rfl, w_p394, by decide +kernel, .inl ⟨1, rfl, small 1 (by decide), .inl ⟨_, Cut.up (w := []) (i := 0) (j := 1) (n := 1) (cs := [(.mk []), (.mk [(.mk [])])]) (bs := [(.mk [])]) (subT_nil _) rfl rfl, by decide +kernel, fun G397 r398 n_r398 => ?_⟩⟩⟩⟩⟩
  have z399 := z396.trans n_r398.1
  replace t_p391 := TreeAt.same (n_r398.1) _ t_p391
  replace w_p394 := n_r398.1 _ _ w_p394
  have t_r398 := n_r398.at_
  refine ⟨(by show 0 ≤ sizeLine; decide), fun p400 n_p400 => ?_⟩
  have s_p400 := same_new n_p400 (.lst [])
  have u_p400 : upd G397 p400 (.lst []) p400 = some (.lst []) := upd_same
  generalize upd G397 p400 (.lst []) = G401 at s_p400 u_p400 ⊢
  have z402 := z399.trans s_p400
  replace t_p391 := TreeAt.same (s_p400) _ t_p391
  replace t_r398 := TreeAt.same (s_p400) _ t_r398
  replace w_p394 := s_p400 _ _ w_p394
  have t_p400 : TreeAt G401 (.ref p400) (.mk []) := tr_li u_p400 trs_nil
  refine ⟨(by show 0 ≤ sizeLine; decide), fun p403 n_p403 => ?_⟩
  have s_p403 := same_new n_p403 (.lst [])
  have u_p403 : upd G401 p403 (.lst []) p403 = some (.lst []) := upd_same
  generalize upd G401 p403 (.lst []) = G404 at s_p403 u_p403 ⊢
  have z405 := z402.trans s_p403
  replace t_p391 := TreeAt.same (s_p403) _ t_p391
  replace t_r398 := TreeAt.same (s_p403) _ t_r398
  replace t_p400 := TreeAt.same (s_p403) _ t_p400
  replace w_p394 := s_p403 _ _ w_p394
  have t_p403 : TreeAt G404 (.ref p403) (.mk []) := tr_li u_p403 trs_nil
  refine ⟨(by show 0 ≤ sizeLine; decide), fun p406 n_p406 => ?_⟩
  have s_p406 := same_new n_p406 (.lst [])
  have u_p406 : upd G404 p406 (.lst []) p406 = some (.lst []) := upd_same
  generalize upd G404 p406 (.lst []) = G407 at s_p406 u_p406 ⊢
  have z408 := z405.trans s_p406
  replace t_p391 := TreeAt.same (s_p406) _ t_p391
  replace t_r398 := TreeAt.same (s_p406) _ t_r398
  replace t_p400 := TreeAt.same (s_p406) _ t_p400
  replace t_p403 := TreeAt.same (s_p406) _ t_p403
  replace w_p394 := s_p406 _ _ w_p394
  have t_p406 : TreeAt G407 (.ref p406) (.mk []) := tr_li u_p406 trs_nil
  refine ⟨(by show 3 ≤ sizeLine; decide), fun p409 n_p409 => ?_⟩
  have s_p409 := same_new n_p409 (.lst [V.ref p400, .ref p403, .ref p406])
  have u_p409 : upd G407 p409 (.lst [V.ref p400, .ref p403, .ref p406]) p409 = some (.lst [V.ref p400, .ref p403, .ref p406]) := upd_same
  generalize upd G407 p409 (.lst [V.ref p400, .ref p403, .ref p406]) = G410 at s_p409 u_p409 ⊢
  have z411 := z408.trans s_p409
  replace t_p391 := TreeAt.same (s_p409) _ t_p391
  replace t_r398 := TreeAt.same (s_p409) _ t_r398
  replace t_p400 := TreeAt.same (s_p409) _ t_p400
  replace t_p403 := TreeAt.same (s_p409) _ t_p403
  replace t_p406 := TreeAt.same (s_p409) _ t_p406
  replace w_p394 := s_p409 _ _ w_p394
  have t_p409 : TreeAt G410 (.ref p409) (.mk [(.mk []), (.mk []), (.mk [])]) := tr_li u_p409 (treesAt_c t_p400 (treesAt_c t_p403 (treesAt_c t_p406 trs_nil)))
  refine ne_trees t_r398 t_p409 (by decide +kernel) (by decide +kernel) ⟨_, rfl, iteNS (by decide +kernel) ?_⟩
  clear z381 n_p382 s_p382 u_p382 z384 t_p382 n_p385 s_p385 u_p385 z387 t_p385 n_p388 s_p388 u_p388 z390 t_p388 n_p391 s_p391 u_p391 z393 t_p391 n_p394 s_p394 u_p394 z396 w_p394 n_r398 z399 t_r398 n_p400 s_p400 u_p400 z402 t_p400 n_p403 s_p403 u_p403 z405 t_p403 n_p406 s_p406 u_p406 z408 t_p406 n_p409 s_p409 u_p409 t_p409
  -- cut([[], [[]]], [0], 9) != [[[]]]
  refine ⟨(by show 0 ≤ sizeLine; decide), fun p412 n_p412 => ?_⟩
  have s_p412 := same_new n_p412 (.lst [])
  have u_p412 : upd G410 p412 (.lst []) p412 = some (.lst []) := upd_same
  generalize upd G410 p412 (.lst []) = G413 at s_p412 u_p412 ⊢
  have z414 := z411.trans s_p412
  have t_p412 : TreeAt G413 (.ref p412) (.mk []) := tr_li u_p412 trs_nil
  refine ⟨(by show 0 ≤ sizeLine; decide), fun p415 n_p415 => ?_⟩
  have s_p415 := same_new n_p415 (.lst [])
  have u_p415 : upd G413 p415 (.lst []) p415 = some (.lst []) := upd_same
  generalize upd G413 p415 (.lst []) = G416 at s_p415 u_p415 ⊢
  have z417 := z414.trans s_p415
  replace t_p412 := TreeAt.same (s_p415) _ t_p412
  have t_p415 : TreeAt G416 (.ref p415) (.mk []) := tr_li u_p415 trs_nil
  refine ⟨(by show 1 ≤ sizeLine; decide), fun p418 n_p418 => ?_⟩
  have s_p418 := same_new n_p418 (.lst [V.ref p415])
  have u_p418 : upd G416 p418 (.lst [V.ref p415]) p418 = some (.lst [V.ref p415]) := upd_same
  generalize upd G416 p418 (.lst [V.ref p415]) = G419 at s_p418 u_p418 ⊢
  have z420 := z417.trans s_p418
  replace t_p412 := TreeAt.same (s_p418) _ t_p412
  replace t_p415 := TreeAt.same (s_p418) _ t_p415
  have t_p418 : TreeAt G419 (.ref p418) (.mk [(.mk [])]) := tr_li u_p418 (treesAt_c t_p415 trs_nil)
  refine ⟨(by show 2 ≤ sizeLine; decide), fun p421 n_p421 => ?_⟩
  have s_p421 := same_new n_p421 (.lst [V.ref p412, .ref p418])
  have u_p421 : upd G419 p421 (.lst [V.ref p412, .ref p418]) p421 = some (.lst [V.ref p412, .ref p418]) := upd_same
  generalize upd G419 p421 (.lst [V.ref p412, .ref p418]) = G422 at s_p421 u_p421 ⊢
  have z423 := z420.trans s_p421
  replace t_p412 := TreeAt.same (s_p421) _ t_p412
  replace t_p418 := TreeAt.same (s_p421) _ t_p418
  have t_p421 : TreeAt G422 (.ref p421) (.mk [(.mk []), (.mk [(.mk [])])]) := tr_li u_p421 (treesAt_c t_p412 (treesAt_c t_p418 trs_nil))
  refine ⟨(by show 1 ≤ sizeLine; decide), fun p424 n_p424 => ?_⟩
  have s_p424 := same_new n_p424 (.lst [V.int 0])
  have u_p424 : upd G422 p424 (.lst [V.int 0]) p424 = some (.lst [V.int 0]) := upd_same
  generalize upd G422 p424 (.lst [V.int 0]) = G425 at s_p424 u_p424 ⊢
  have z426 := z423.trans s_p424
  replace t_p421 := TreeAt.same (s_p424) _ t_p421
  have w_p424 : G425 p424 = some (.lst (([0] : List Int).map V.int)) := u_p424
  refine ⟨_, _, .int ((9 : Nat) : Int), rfl, .inl ⟨_, t_p421, ⟨by decide +kernel, by decide +kernel⟩, .inl ⟨_, [0], rfl, w_p424, by decide +kernel, .inl ⟨9, rfl, small 9 (by decide), .inl ⟨_, Cut.root rfl, by decide +kernel, fun G427 r428 n_r428 => ?_⟩⟩⟩⟩⟩
  have z429 := z426.trans n_r428.1
  replace t_p421 := TreeAt.same (n_r428.1) _ t_p421
  replace w_p424 := n_r428.1 _ _ w_p424
  have t_r428 := n_r428.at_
  refine ⟨(by show 0 ≤ sizeLine; decide), fun p430 n_p430 => ?_⟩
  have s_p430 := same_new n_p430 (.lst [])
  have u_p430 : upd G427 p430 (.lst []) p430 = some (.lst []) := upd_same
  generalize upd G427 p430 (.lst []) = G431 at s_p430 u_p430 ⊢
  have z432 := z429.trans s_p430
  replace t_p421 := TreeAt.same (s_p430) _ t_p421
  replace t_r428 := TreeAt.same (s_p430) _ t_r428
  replace w_p424 := s_p430 _ _ w_p424
  have t_p430 : TreeAt G431 (.ref p430) (.mk []) := tr_li u_p430 trs_nil
  refine ⟨(by show 1 ≤ sizeLine; decide), fun p433 n_p433 => ?_⟩
  have s_p433 := same_new n_p433 (.lst [V.ref p430])
  have u_p433 : upd G431 p433 (.lst [V.ref p430]) p433 = some (.lst [V.ref p430]) := upd_same
  generalize upd G431 p433 (.lst [V.ref p430]) = G434 at s_p433 u_p433 ⊢
  have z435 := z432.trans s_p433
  replace t_p421 := TreeAt.same (s_p433) _ t_p421
  replace t_r428 := TreeAt.same (s_p433) _ t_r428
  replace t_p430 := TreeAt.same (s_p433) _ t_p430
  replace w_p424 := s_p433 _ _ w_p424
  have t_p433 : TreeAt G434 (.ref p433) (.mk [(.mk [])]) := tr_li u_p433 (treesAt_c t_p430 trs_nil)
  refine ⟨(by show 1 ≤ sizeLine; decide), fun p436 n_p436 => ?_⟩
  have s_p436 := same_new n_p436 (.lst [V.ref p433])
  have u_p436 : upd G434 p436 (.lst [V.ref p433]) p436 = some (.lst [V.ref p433]) := upd_same
  generalize upd G434 p436 (.lst [V.ref p433]) = G437 at s_p436 u_p436 ⊢
  have z438 := z435.trans s_p436
  replace t_p421 := TreeAt.same (s_p436) _ t_p421
  replace t_r428 := TreeAt.same (s_p436) _ t_r428
  replace t_p433 := TreeAt.same (s_p436) _ t_p433
  replace w_p424 := s_p436 _ _ w_p424
  have t_p436 : TreeAt G437 (.ref p436) (.mk [(.mk [(.mk [])])]) := tr_li u_p436 (treesAt_c t_p433 trs_nil)
  refine ne_trees t_r428 t_p436 (by decide +kernel) (by decide +kernel) ⟨_, rfl, iteNS (by decide +kernel) ?_⟩
  clear z411 n_p412 s_p412 u_p412 z414 t_p412 n_p415 s_p415 u_p415 z417 t_p415 n_p418 s_p418 u_p418 z420 t_p418 n_p421 s_p421 u_p421 z423 t_p421 n_p424 s_p424 u_p424 z426 w_p424 n_r428 z429 t_r428 n_p430 s_p430 u_p430 z432 t_p430 n_p433 s_p433 u_p433 z435 t_p433 n_p436 s_p436 u_p436 t_p436
  -- no_of(lambda: cut([[[], []]], [0, 0], 150)) != 'great'
  refine ⟨LamX.Tabs.ext hT z438, fun G439 x440 hT441 => ?_⟩
  have xe442 := xe0.trans ((LamX.ExtN.of z438).trans x440)
  have z443 := Same.refl G439
  refine ⟨(by show 0 ≤ sizeLine; decide), fun p444 n_p444 => ?_⟩
  have s_p444 := same_new n_p444 (.lst [])
  have u_p444 : upd G439 p444 (.lst []) p444 = some (.lst []) := upd_same
  generalize upd G439 p444 (.lst []) = G445 at s_p444 u_p444 ⊢
  have z446 := z443.trans s_p444
  have t_p444 : TreeAt G445 (.ref p444) (.mk []) := tr_li u_p444 trs_nil
  refine ⟨(by show 0 ≤ sizeLine; decide), fun p447 n_p447 => ?_⟩
  have s_p447 := same_new n_p447 (.lst [])
  have u_p447 : upd G445 p447 (.lst []) p447 = some (.lst []) := upd_same
  generalize upd G445 p447 (.lst []) = G448 at s_p447 u_p447 ⊢
  have z449 := z446.trans s_p447
  replace t_p444 := TreeAt.same (s_p447) _ t_p444
  have t_p447 : TreeAt G448 (.ref p447) (.mk []) := tr_li u_p447 trs_nil
  refine ⟨(by show 2 ≤ sizeLine; decide), fun p450 n_p450 => ?_⟩
  have s_p450 := same_new n_p450 (.lst [V.ref p444, .ref p447])
  have u_p450 : upd G448 p450 (.lst [V.ref p444, .ref p447]) p450 = some (.lst [V.ref p444, .ref p447]) := upd_same
  generalize upd G448 p450 (.lst [V.ref p444, .ref p447]) = G451 at s_p450 u_p450 ⊢
  have z452 := z449.trans s_p450
  replace t_p444 := TreeAt.same (s_p450) _ t_p444
  replace t_p447 := TreeAt.same (s_p450) _ t_p447
  have t_p450 : TreeAt G451 (.ref p450) (.mk [(.mk []), (.mk [])]) := tr_li u_p450 (treesAt_c t_p444 (treesAt_c t_p447 trs_nil))
  refine ⟨(by show 1 ≤ sizeLine; decide), fun p453 n_p453 => ?_⟩
  have s_p453 := same_new n_p453 (.lst [V.ref p450])
  have u_p453 : upd G451 p453 (.lst [V.ref p450]) p453 = some (.lst [V.ref p450]) := upd_same
  generalize upd G451 p453 (.lst [V.ref p450]) = G454 at s_p453 u_p453 ⊢
  have z455 := z452.trans s_p453
  replace t_p450 := TreeAt.same (s_p453) _ t_p450
  have t_p453 : TreeAt G454 (.ref p453) (.mk [(.mk [(.mk []), (.mk [])])]) := tr_li u_p453 (treesAt_c t_p450 trs_nil)
  refine ⟨(by show 2 ≤ sizeLine; decide), fun p456 n_p456 => ?_⟩
  have s_p456 := same_new n_p456 (.lst [V.int 0, .int 0])
  have u_p456 : upd G454 p456 (.lst [V.int 0, .int 0]) p456 = some (.lst [V.int 0, .int 0]) := upd_same
  generalize upd G454 p456 (.lst [V.int 0, .int 0]) = G457 at s_p456 u_p456 ⊢
  have z458 := z455.trans s_p456
  replace t_p453 := TreeAt.same (s_p456) _ t_p453
  have w_p456 : G457 p456 = some (.lst (([0, 0] : List Int).map V.int)) := u_p456
  refine ⟨_, _, .int ((150 : Nat) : Int), rfl, .inl ⟨_, t_p453, ⟨by decide +kernel, by decide +kernel⟩, .inl ⟨_, [0, 0], rfl, w_p456, by decide +kernel, .inl ⟨150, rfl, small 150 (by decide), .inr ⟨by decide +kernel, fun G459 s460 => ?_⟩⟩⟩⟩⟩
  have z461 := z458.trans s460
  replace t_p453 := TreeAt.same (s460) _ t_p453
  replace w_p456 := s460 _ _ w_p456
  refine ⟨T.A_TooGreat, false, true, rfl, rfl, T.ex_TooGreat, PySem.W.exm_ref T.sb_HeadError T.hd_HeadError T.tt_HeadError T.su_TooGreat, T.kt_TooGreat_BadBase, T.kt_TooGreat_TooGreat, by decide, fun G462 s463 => ?_⟩
  have z464 := z461.trans s463
  replace t_p453 := TreeAt.same (s463) _ t_p453
  replace w_p456 := s463 _ _ w_p456
  refine ⟨rfl, _, rfl, iteNS (by decide +kernel) ?_⟩
  clear z438 x440 z443 n_p444 s_p444 u_p444 z446 t_p444 n_p447 s_p447 u_p447 z449 t_p447 n_p450 s_p450 u_p450 z452 t_p450 n_p453 s_p453 u_p453 z455 t_p453 n_p456 s_p456 u_p456 z458 w_p456 s460 z461 s463
  -- len(cut([[[], []]], [0, 0], 148)) != 149
  refine ⟨(by show 0 ≤ sizeLine; decide), fun p465 n_p465 => ?_⟩
  have s_p465 := same_new n_p465 (.lst [])
  have u_p465 : upd G462 p465 (.lst []) p465 = some (.lst []) := upd_same
  generalize upd G462 p465 (.lst []) = G466 at s_p465 u_p465 ⊢
  have z467 := z464.trans s_p465
  have t_p465 : TreeAt G466 (.ref p465) (.mk []) := tr_li u_p465 trs_nil
  refine ⟨(by show 0 ≤ sizeLine; decide), fun p468 n_p468 => ?_⟩
  have s_p468 := same_new n_p468 (.lst [])
  have u_p468 : upd G466 p468 (.lst []) p468 = some (.lst []) := upd_same
  generalize upd G466 p468 (.lst []) = G469 at s_p468 u_p468 ⊢
  have z470 := z467.trans s_p468
  replace t_p465 := TreeAt.same (s_p468) _ t_p465
  have t_p468 : TreeAt G469 (.ref p468) (.mk []) := tr_li u_p468 trs_nil
  refine ⟨(by show 2 ≤ sizeLine; decide), fun p471 n_p471 => ?_⟩
  have s_p471 := same_new n_p471 (.lst [V.ref p465, .ref p468])
  have u_p471 : upd G469 p471 (.lst [V.ref p465, .ref p468]) p471 = some (.lst [V.ref p465, .ref p468]) := upd_same
  generalize upd G469 p471 (.lst [V.ref p465, .ref p468]) = G472 at s_p471 u_p471 ⊢
  have z473 := z470.trans s_p471
  replace t_p465 := TreeAt.same (s_p471) _ t_p465
  replace t_p468 := TreeAt.same (s_p471) _ t_p468
  have t_p471 : TreeAt G472 (.ref p471) (.mk [(.mk []), (.mk [])]) := tr_li u_p471 (treesAt_c t_p465 (treesAt_c t_p468 trs_nil))
  refine ⟨(by show 1 ≤ sizeLine; decide), fun p474 n_p474 => ?_⟩
  have s_p474 := same_new n_p474 (.lst [V.ref p471])
  have u_p474 : upd G472 p474 (.lst [V.ref p471]) p474 = some (.lst [V.ref p471]) := upd_same
  generalize upd G472 p474 (.lst [V.ref p471]) = G475 at s_p474 u_p474 ⊢
  have z476 := z473.trans s_p474
  replace t_p471 := TreeAt.same (s_p474) _ t_p471
  have t_p474 : TreeAt G475 (.ref p474) (.mk [(.mk [(.mk []), (.mk [])])]) := tr_li u_p474 (treesAt_c t_p471 trs_nil)
  refine ⟨(by show 2 ≤ sizeLine; decide), fun p477 n_p477 => ?_⟩
  have s_p477 := same_new n_p477 (.lst [V.int 0, .int 0])
  have u_p477 : upd G475 p477 (.lst [V.int 0, .int 0]) p477 = some (.lst [V.int 0, .int 0]) := upd_same
  generalize upd G475 p477 (.lst [V.int 0, .int 0]) = G478 at s_p477 u_p477 ⊢
  have z479 := z476.trans s_p477
  replace t_p474 := TreeAt.same (s_p477) _ t_p474
  have w_p477 : G478 p477 = some (.lst (([0, 0] : List Int).map V.int)) := u_p477
  have er : putT (.mk [.mk [.mk [], .mk []]]) [] (.mk ([Tt.mk [.mk [], .mk []]].set 0 (.mk ([Tt.mk [], .mk []].eraseIdx 0)) ++ List.replicate 148 (.mk ([Tt.mk [], .mk []].eraseIdx 0)))) = .mk (List.replicate 149 (.mk [.mk []])) := rfl
  have cu : Cut (.mk [.mk [.mk [], .mk []]]) [0, 0] 148 _ := Cut.up (w := []) (i := 0) (j := 0) (n := 148) (cs := [(.mk [(.mk []), (.mk [])])]) (bs := [(.mk []), (.mk [])]) (subT_nil _) rfl rfl
  rw [er] at cu
  have kr : knots (.mk (List.replicate 149 (.mk [.mk []]))) ≤ 300 := by
    rw [knots, knotsL_rep, show knots (.mk [.mk []]) = 2 by decide +kernel]
    decide
  refine ⟨_, _, .int ((148 : Nat) : Int), rfl, .inl ⟨_, t_p474, ⟨by decide +kernel, by decide +kernel⟩, .inl ⟨_, [0, 0], rfl, w_p477, by decide +kernel, .inl ⟨148, rfl, small 148 (by decide), .inl ⟨_, cu, kr, fun G480 r481 n_r481 => ?_⟩⟩⟩⟩⟩
  rw [told_flat (by decide +kernel) 149] at n_r481
  have z482 := z479.trans n_r481.1
  replace t_p474 := TreeAt.same (n_r481.1) _ t_p474
  replace w_p477 := n_r481.1 _ _ w_p477
  have t_r481 := n_r481.at_
  rw [treeAt_mk] at t_r481
  obtain ⟨a_r481, v_r481, rfl, ha_r481, hv_r481⟩ := t_r481
  have hl_r481 := hv_r481.len
  rw [List.length_replicate] at hl_r481
  refine ⟨a_r481, v_r481, rfl, .inl (SqL.of ha_r481), rfl, _, rfl, iteNS (by rw [hl_r481]; rfl) ?_⟩
  clear z464 n_p465 s_p465 u_p465 z467 t_p465 n_p468 s_p468 u_p468 z470 t_p468 n_p471 s_p471 u_p471 z473 t_p471 n_p474 s_p474 u_p474 z476 t_p474 n_p477 s_p477 u_p477 z479 w_p477 er cu kr n_r481 ha_r481 hv_r481 hl_r481
  -- [written(number_here, 2) for number_here in range(5)] != [[], [[]], [[[]]], [[[]], []], [[[[]]]]]
  refine ⟨_, rfl, by decide, by decide, fun D483 n_D483 => ?_⟩
  refine lc_it walk_range (fun i H' => Grow G480 H' D483 ((List.range i).map (writtenT 2))) (Grow.start n_D483) (fun _ _ _ _ => trivial) ?_ ?_
  · rintro i z J1 J2 hi g ⟨rfl, rfl⟩
    replace hi : i < 5 := hi
    have hk : ∀ i : Fin 5, knots (writtenT 2 i.val) ≤ 300 := by decide +kernel
    refine ⟨rfl, _, rfl, _, _, rfl, .inl ⟨i, congrArg V.int (Int.zero_add _), Nat.lt_of_lt_of_le hi (by decide +kernel), .inl ⟨2, rfl, by decide, Bits.mono (a := 100) (by show (2 : Nat) < 2 ^ 100; decide) (by decide), .inl ⟨hk ⟨i, hi⟩, fun J3 r n => ?_⟩⟩⟩⟩
    obtain ⟨acc, h1, h2, h3⟩ := g.more n
    refine ⟨acc, h1, ?_, ?_⟩
    · rw [h2, List.length_map, List.length_range]
      exact Nat.lt_of_lt_of_le hi (by decide)
    · rw [List.range_succ, List.map_append]; exact h3
  intro G484 g
  replace g : Grow G480 G484 D483 ((List.range 5).map (writtenT 2)) := g
  have z485 := z482.trans g.same
  have t_D483 := g.done.at_
  refine ⟨(by show 0 ≤ sizeLine; decide), fun p486 n_p486 => ?_⟩
  have s_p486 := same_new n_p486 (.lst [])
  have u_p486 : upd G484 p486 (.lst []) p486 = some (.lst []) := upd_same
  generalize upd G484 p486 (.lst []) = G487 at s_p486 u_p486 ⊢
  have z488 := z485.trans s_p486
  replace t_D483 := TreeAt.same (s_p486) _ t_D483
  have t_p486 : TreeAt G487 (.ref p486) (.mk []) := tr_li u_p486 trs_nil
  refine ⟨(by show 0 ≤ sizeLine; decide), fun p489 n_p489 => ?_⟩
  have s_p489 := same_new n_p489 (.lst [])
  have u_p489 : upd G487 p489 (.lst []) p489 = some (.lst []) := upd_same
  generalize upd G487 p489 (.lst []) = G490 at s_p489 u_p489 ⊢
  have z491 := z488.trans s_p489
  replace t_D483 := TreeAt.same (s_p489) _ t_D483
  replace t_p486 := TreeAt.same (s_p489) _ t_p486
  have t_p489 : TreeAt G490 (.ref p489) (.mk []) := tr_li u_p489 trs_nil
  refine ⟨(by show 1 ≤ sizeLine; decide), fun p492 n_p492 => ?_⟩
  have s_p492 := same_new n_p492 (.lst [V.ref p489])
  have u_p492 : upd G490 p492 (.lst [V.ref p489]) p492 = some (.lst [V.ref p489]) := upd_same
  generalize upd G490 p492 (.lst [V.ref p489]) = G493 at s_p492 u_p492 ⊢
  have z494 := z491.trans s_p492
  replace t_D483 := TreeAt.same (s_p492) _ t_D483
  replace t_p486 := TreeAt.same (s_p492) _ t_p486
  replace t_p489 := TreeAt.same (s_p492) _ t_p489
  have t_p492 : TreeAt G493 (.ref p492) (.mk [(.mk [])]) := tr_li u_p492 (treesAt_c t_p489 trs_nil)
  refine ⟨(by show 0 ≤ sizeLine; decide), fun p495 n_p495 => ?_⟩
  have s_p495 := same_new n_p495 (.lst [])
  have u_p495 : upd G493 p495 (.lst []) p495 = some (.lst []) := upd_same
  generalize upd G493 p495 (.lst []) = G496 at s_p495 u_p495 ⊢
  have z497 := z494.trans s_p495
  replace t_D483 := TreeAt.same (s_p495) _ t_D483
  replace t_p486 := TreeAt.same (s_p495) _ t_p486
  replace t_p492 := TreeAt.same (s_p495) _ t_p492
  have t_p495 : TreeAt G496 (.ref p495) (.mk []) := tr_li u_p495 trs_nil
  refine ⟨(by show 1 ≤ sizeLine; decide), fun p498 n_p498 => ?_⟩
  have s_p498 := same_new n_p498 (.lst [V.ref p495])
  have u_p498 : upd G496 p498 (.lst [V.ref p495]) p498 = some (.lst [V.ref p495]) := upd_same
  generalize upd G496 p498 (.lst [V.ref p495]) = G499 at s_p498 u_p498 ⊢
  have z500 := z497.trans s_p498
  replace t_D483 := TreeAt.same (s_p498) _ t_D483
  replace t_p486 := TreeAt.same (s_p498) _ t_p486
  replace t_p492 := TreeAt.same (s_p498) _ t_p492
  replace t_p495 := TreeAt.same (s_p498) _ t_p495
  have t_p498 : TreeAt G499 (.ref p498) (.mk [(.mk [])]) := tr_li u_p498 (treesAt_c t_p495 trs_nil)
  refine ⟨(by show 1 ≤ sizeLine; decide), fun p501 n_p501 => ?_⟩
  have s_p501 := same_new n_p501 (.lst [V.ref p498])
  have u_p501 : upd G499 p501 (.lst [V.ref p498]) p501 = some (.lst [V.ref p498]) := upd_same
  generalize upd G499 p501 (.lst [V.ref p498]) = G502 at s_p501 u_p501 ⊢
  have z503 := z500.trans s_p501
  replace t_D483 := TreeAt.same (s_p501) _ t_D483
  replace t_p486 := TreeAt.same (s_p501) _ t_p486
  replace t_p492 := TreeAt.same (s_p501) _ t_p492
  replace t_p498 := TreeAt.same (s_p501) _ t_p498
  have t_p501 : TreeAt G502 (.ref p501) (.mk [(.mk [(.mk [])])]) := tr_li u_p501 (treesAt_c t_p498 trs_nil)
  refine ⟨(by show 0 ≤ sizeLine; decide), fun p504 n_p504 => ?_⟩
  have s_p504 := same_new n_p504 (.lst [])
  have u_p504 : upd G502 p504 (.lst []) p504 = some (.lst []) := upd_same
  generalize upd G502 p504 (.lst []) = G505 at s_p504 u_p504 ⊢
  have z506 := z503.trans s_p504
  replace t_D483 := TreeAt.same (s_p504) _ t_D483
  replace t_p486 := TreeAt.same (s_p504) _ t_p486
  replace t_p492 := TreeAt.same (s_p504) _ t_p492
  replace t_p501 := TreeAt.same (s_p504) _ t_p501
  have t_p504 : TreeAt G505 (.ref p504) (.mk []) := tr_li u_p504 trs_nil
  refine ⟨(by show 1 ≤ sizeLine; decide), fun p507 n_p507 => ?_⟩
  have s_p507 := same_new n_p507 (.lst [V.ref p504])
  have u_p507 : upd G505 p507 (.lst [V.ref p504]) p507 = some (.lst [V.ref p504]) := upd_same
  generalize upd G505 p507 (.lst [V.ref p504]) = G508 at s_p507 u_p507 ⊢
  have z509 := z506.trans s_p507
  replace t_D483 := TreeAt.same (s_p507) _ t_D483
  replace t_p486 := TreeAt.same (s_p507) _ t_p486
  replace t_p492 := TreeAt.same (s_p507) _ t_p492
  replace t_p501 := TreeAt.same (s_p507) _ t_p501
  replace t_p504 := TreeAt.same (s_p507) _ t_p504
  have t_p507 : TreeAt G508 (.ref p507) (.mk [(.mk [])]) := tr_li u_p507 (treesAt_c t_p504 trs_nil)
  refine ⟨(by show 0 ≤ sizeLine; decide), fun p510 n_p510 => ?_⟩
  have s_p510 := same_new n_p510 (.lst [])
  have u_p510 : upd G508 p510 (.lst []) p510 = some (.lst []) := upd_same
  generalize upd G508 p510 (.lst []) = G511 at s_p510 u_p510 ⊢
  have z512 := z509.trans s_p510
  replace t_D483 := TreeAt.same (s_p510) _ t_D483
  replace t_p486 := TreeAt.same (s_p510) _ t_p486
  replace t_p492 := TreeAt.same (s_p510) _ t_p492
  replace t_p501 := TreeAt.same (s_p510) _ t_p501
  replace t_p507 := TreeAt.same (s_p510) _ t_p507
  have t_p510 : TreeAt G511 (.ref p510) (.mk []) := tr_li u_p510 trs_nil
  refine ⟨(by show 2 ≤ sizeLine; decide), fun p513 n_p513 => ?_⟩
  have s_p513 := same_new n_p513 (.lst [V.ref p507, .ref p510])
  have u_p513 : upd G511 p513 (.lst [V.ref p507, .ref p510]) p513 = some (.lst [V.ref p507, .ref p510]) := upd_same
  generalize upd G511 p513 (.lst [V.ref p507, .ref p510]) = G514 at s_p513 u_p513 ⊢
  have z515 := z512.trans s_p513
  replace t_D483 := TreeAt.same (s_p513) _ t_D483
  replace t_p486 := TreeAt.same (s_p513) _ t_p486
  replace t_p492 := TreeAt.same (s_p513) _ t_p492
  replace t_p501 := TreeAt.same (s_p513) _ t_p501
  replace t_p507 := TreeAt.same (s_p513) _ t_p507
  replace t_p510 := TreeAt.same (s_p513) _ t_p510
  have t_p513 : TreeAt G514 (.ref p513) (.mk [(.mk [(.mk [])]), (.mk [])]) := tr_li u_p513 (treesAt_c t_p507 (treesAt_c t_p510 trs_nil))
  refine ⟨(by show 0 ≤ sizeLine; decide), fun p516 n_p516 => ?_⟩
  have s_p516 := same_new n_p516 (.lst [])
  have u_p516 : upd G514 p516 (.lst []) p516 = some (.lst []) := upd_same
  generalize upd G514 p516 (.lst []) = G517 at s_p516 u_p516 ⊢
  have z518 := z515.trans s_p516
  replace t_D483 := TreeAt.same (s_p516) _ t_D483
  replace t_p486 := TreeAt.same (s_p516) _ t_p486
  replace t_p492 := TreeAt.same (s_p516) _ t_p492
  replace t_p501 := TreeAt.same (s_p516) _ t_p501
  replace t_p513 := TreeAt.same (s_p516) _ t_p513
  have t_p516 : TreeAt G517 (.ref p516) (.mk []) := tr_li u_p516 trs_nil
  refine ⟨(by show 1 ≤ sizeLine; decide), fun p519 n_p519 => ?_⟩
  have s_p519 := same_new n_p519 (.lst [V.ref p516])
  have u_p519 : upd G517 p519 (.lst [V.ref p516]) p519 = some (.lst [V.ref p516]) := upd_same
  generalize upd G517 p519 (.lst [V.ref p516]) = G520 at s_p519 u_p519 ⊢
  have z521 := z518.trans s_p519
  replace t_D483 := TreeAt.same (s_p519) _ t_D483
  replace t_p486 := TreeAt.same (s_p519) _ t_p486
  replace t_p492 := TreeAt.same (s_p519) _ t_p492
  replace t_p501 := TreeAt.same (s_p519) _ t_p501
  replace t_p513 := TreeAt.same (s_p519) _ t_p513
  replace t_p516 := TreeAt.same (s_p519) _ t_p516
  have t_p519 : TreeAt G520 (.ref p519) (.mk [(.mk [])]) := tr_li u_p519 (treesAt_c t_p516 trs_nil)
  refine ⟨(by show 1 ≤ sizeLine; decide), fun p522 n_p522 => ?_⟩
  have s_p522 := same_new n_p522 (.lst [V.ref p519])
  have u_p522 : upd G520 p522 (.lst [V.ref p519]) p522 = some (.lst [V.ref p519]) := upd_same
  generalize upd G520 p522 (.lst [V.ref p519]) = G523 at s_p522 u_p522 ⊢
  have z524 := z521.trans s_p522
  replace t_D483 := TreeAt.same (s_p522) _ t_D483
  replace t_p486 := TreeAt.same (s_p522) _ t_p486
  replace t_p492 := TreeAt.same (s_p522) _ t_p492
  replace t_p501 := TreeAt.same (s_p522) _ t_p501
  replace t_p513 := TreeAt.same (s_p522) _ t_p513
  replace t_p519 := TreeAt.same (s_p522) _ t_p519
  have t_p522 : TreeAt G523 (.ref p522) (.mk [(.mk [(.mk [])])]) := tr_li u_p522 (treesAt_c t_p519 trs_nil)
  refine ⟨(by show 1 ≤ sizeLine; decide), fun p525 n_p525 => ?_⟩
  have s_p525 := same_new n_p525 (.lst [V.ref p522])
  have u_p525 : upd G523 p525 (.lst [V.ref p522]) p525 = some (.lst [V.ref p522]) := upd_same
  generalize upd G523 p525 (.lst [V.ref p522]) = G526 at s_p525 u_p525 ⊢
  have z527 := z524.trans s_p525
  replace t_D483 := TreeAt.same (s_p525) _ t_D483
  replace t_p486 := TreeAt.same (s_p525) _ t_p486
  replace t_p492 := TreeAt.same (s_p525) _ t_p492
  replace t_p501 := TreeAt.same (s_p525) _ t_p501
  replace t_p513 := TreeAt.same (s_p525) _ t_p513
  replace t_p522 := TreeAt.same (s_p525) _ t_p522
  have t_p525 : TreeAt G526 (.ref p525) (.mk [(.mk [(.mk [(.mk [])])])]) := tr_li u_p525 (treesAt_c t_p522 trs_nil)
  refine ⟨(by show 5 ≤ sizeLine; decide), fun p528 n_p528 => ?_⟩
  have s_p528 := same_new n_p528 (.lst [V.ref p486, .ref p492, .ref p501, .ref p513, .ref p525])
  have u_p528 : upd G526 p528 (.lst [V.ref p486, .ref p492, .ref p501, .ref p513, .ref p525]) p528 = some (.lst [V.ref p486, .ref p492, .ref p501, .ref p513, .ref p525]) := upd_same
  generalize upd G526 p528 (.lst [V.ref p486, .ref p492, .ref p501, .ref p513, .ref p525]) = G529 at s_p528 u_p528 ⊢
  have z530 := z527.trans s_p528
  replace t_D483 := TreeAt.same (s_p528) _ t_D483
  replace t_p486 := TreeAt.same (s_p528) _ t_p486
  replace t_p492 := TreeAt.same (s_p528) _ t_p492
  replace t_p501 := TreeAt.same (s_p528) _ t_p501
  replace t_p513 := TreeAt.same (s_p528) _ t_p513
  replace t_p525 := TreeAt.same (s_p528) _ t_p525
  have t_p528 : TreeAt G529 (.ref p528) (.mk [(.mk []), (.mk [(.mk [])]), (.mk [(.mk [(.mk [])])]), (.mk [(.mk [(.mk [])]), (.mk [])]), (.mk [(.mk [(.mk [(.mk [])])])])]) := tr_li u_p528 (treesAt_c t_p486 (treesAt_c t_p492 (treesAt_c t_p501 (treesAt_c t_p513 (treesAt_c t_p525 trs_nil)))))
  refine ne_trees t_D483 t_p528 (by decide +kernel) (by decide +kernel) ⟨_, rfl, iteNS (by decide +kernel) ?_⟩
  -- written(3, 10 ** 30) != [[], [], []]
  refine ⟨_, _, rfl, rfl, (by exact ⟨by decide, by decide, by decide⟩), ?_⟩
  refine ⟨_, _, rfl, .inl ⟨3, rfl, by decide +kernel, .inl ⟨10 ^ 30, rfl, by decide +kernel, Bits.mono (a := 100) (by show (10 ^ 30 : Nat) < 2 ^ 100; decide) (by decide), .inl ⟨by decide +kernel, fun G531 r532 n_r532 => ?_⟩⟩⟩⟩
  have z533 := z530.trans n_r532.1
  have t_r532 := n_r532.at_
  refine ⟨(by show 0 ≤ sizeLine; decide), fun p534 n_p534 => ?_⟩
  have s_p534 := same_new n_p534 (.lst [])
  have u_p534 : upd G531 p534 (.lst []) p534 = some (.lst []) := upd_same
  generalize upd G531 p534 (.lst []) = G535 at s_p534 u_p534 ⊢
  have z536 := z533.trans s_p534
  replace t_r532 := TreeAt.same (s_p534) _ t_r532
  have t_p534 : TreeAt G535 (.ref p534) (.mk []) := tr_li u_p534 trs_nil
  refine ⟨(by show 0 ≤ sizeLine; decide), fun p537 n_p537 => ?_⟩
  have s_p537 := same_new n_p537 (.lst [])
  have u_p537 : upd G535 p537 (.lst []) p537 = some (.lst []) := upd_same
  generalize upd G535 p537 (.lst []) = G538 at s_p537 u_p537 ⊢
  have z539 := z536.trans s_p537
  replace t_r532 := TreeAt.same (s_p537) _ t_r532
  replace t_p534 := TreeAt.same (s_p537) _ t_p534
  have t_p537 : TreeAt G538 (.ref p537) (.mk []) := tr_li u_p537 trs_nil
  refine ⟨(by show 0 ≤ sizeLine; decide), fun p540 n_p540 => ?_⟩
  have s_p540 := same_new n_p540 (.lst [])
  have u_p540 : upd G538 p540 (.lst []) p540 = some (.lst []) := upd_same
  generalize upd G538 p540 (.lst []) = G541 at s_p540 u_p540 ⊢
  have z542 := z539.trans s_p540
  replace t_r532 := TreeAt.same (s_p540) _ t_r532
  replace t_p534 := TreeAt.same (s_p540) _ t_p534
  replace t_p537 := TreeAt.same (s_p540) _ t_p537
  have t_p540 : TreeAt G541 (.ref p540) (.mk []) := tr_li u_p540 trs_nil
  refine ⟨(by show 3 ≤ sizeLine; decide), fun p543 n_p543 => ?_⟩
  have s_p543 := same_new n_p543 (.lst [V.ref p534, .ref p537, .ref p540])
  have u_p543 : upd G541 p543 (.lst [V.ref p534, .ref p537, .ref p540]) p543 = some (.lst [V.ref p534, .ref p537, .ref p540]) := upd_same
  generalize upd G541 p543 (.lst [V.ref p534, .ref p537, .ref p540]) = G544 at s_p543 u_p543 ⊢
  have z545 := z542.trans s_p543
  replace t_r532 := TreeAt.same (s_p543) _ t_r532
  replace t_p534 := TreeAt.same (s_p543) _ t_p534
  replace t_p537 := TreeAt.same (s_p543) _ t_p537
  replace t_p540 := TreeAt.same (s_p543) _ t_p540
  have t_p543 : TreeAt G544 (.ref p543) (.mk [(.mk []), (.mk []), (.mk [])]) := tr_li u_p543 (treesAt_c t_p534 (treesAt_c t_p537 (treesAt_c t_p540 trs_nil)))
  refine ne_trees t_r532 t_p543 (by decide +kernel) (by decide +kernel) ⟨_, rfl, iteNS (by decide +kernel) ?_⟩
  clear z482 n_D483 g z485 t_D483 n_p486 s_p486 u_p486 z488 t_p486 n_p489 s_p489 u_p489 z491 t_p489 n_p492 s_p492 u_p492 z494 t_p492 n_p495 s_p495 u_p495 z497 t_p495 n_p498 s_p498 u_p498 z500 t_p498 n_p501 s_p501 u_p501 z503 t_p501 n_p504 s_p504 u_p504 z506 t_p504 n_p507 s_p507 u_p507 z509 t_p507 n_p510 s_p510 u_p510 z512 t_p510 n_p513 s_p513 u_p513 z515 t_p513 n_p516 s_p516 u_p516 z518 t_p516 n_p519 s_p519 u_p519 z521 t_p519 n_p522 s_p522 u_p522 z524 t_p522 n_p525 s_p525 u_p525 z527 t_p525 n_p528 s_p528 u_p528 z530 t_p528 n_r532 z533 t_r532 n_p534 s_p534 u_p534 z536 t_p534 n_p537 s_p537 u_p537 z539 t_p537 n_p540 s_p540 u_p540 z542 t_p540 n_p543 s_p543 u_p543 t_p543
  -- number_of([[], [[]]], 2) != 3
  refine ⟨(by show 0 ≤ sizeLine; decide), fun p546 n_p546 => ?_⟩
  have s_p546 := same_new n_p546 (.lst [])
  have u_p546 : upd G544 p546 (.lst []) p546 = some (.lst []) := upd_same
  generalize upd G544 p546 (.lst []) = G547 at s_p546 u_p546 ⊢
  have z548 := z545.trans s_p546
  have t_p546 : TreeAt G547 (.ref p546) (.mk []) := tr_li u_p546 trs_nil
  refine ⟨(by show 0 ≤ sizeLine; decide), fun p549 n_p549 => ?_⟩
  have s_p549 := same_new n_p549 (.lst [])
  have u_p549 : upd G547 p549 (.lst []) p549 = some (.lst []) := upd_same
  generalize upd G547 p549 (.lst []) = G550 at s_p549 u_p549 ⊢
  have z551 := z548.trans s_p549
  replace t_p546 := TreeAt.same (s_p549) _ t_p546
  have t_p549 : TreeAt G550 (.ref p549) (.mk []) := tr_li u_p549 trs_nil
  refine ⟨(by show 1 ≤ sizeLine; decide), fun p552 n_p552 => ?_⟩
  have s_p552 := same_new n_p552 (.lst [V.ref p549])
  have u_p552 : upd G550 p552 (.lst [V.ref p549]) p552 = some (.lst [V.ref p549]) := upd_same
  generalize upd G550 p552 (.lst [V.ref p549]) = G553 at s_p552 u_p552 ⊢
  have z554 := z551.trans s_p552
  replace t_p546 := TreeAt.same (s_p552) _ t_p546
  replace t_p549 := TreeAt.same (s_p552) _ t_p549
  have t_p552 : TreeAt G553 (.ref p552) (.mk [(.mk [])]) := tr_li u_p552 (treesAt_c t_p549 trs_nil)
  refine ⟨(by show 2 ≤ sizeLine; decide), fun p555 n_p555 => ?_⟩
  have s_p555 := same_new n_p555 (.lst [V.ref p546, .ref p552])
  have u_p555 : upd G553 p555 (.lst [V.ref p546, .ref p552]) p555 = some (.lst [V.ref p546, .ref p552]) := upd_same
  generalize upd G553 p555 (.lst [V.ref p546, .ref p552]) = G556 at s_p555 u_p555 ⊢
  have z557 := z554.trans s_p555
  replace t_p546 := TreeAt.same (s_p555) _ t_p546
  replace t_p552 := TreeAt.same (s_p555) _ t_p552
  have t_p555 : TreeAt G556 (.ref p555) (.mk [(.mk []), (.mk [(.mk [])])]) := tr_li u_p555 (treesAt_c t_p546 (treesAt_c t_p552 trs_nil))
  refine ⟨_, _, rfl, .inl ⟨_, t_p555, ⟨by decide +kernel, by decide +kernel⟩, .inl ⟨2, rfl, by decide, Bits.mono (a := 100) (by show (2 : Nat) < 2 ^ 100; decide) (by decide), .inr (.inl ⟨by decide +kernel, by decide +kernel, fun G558 s559 => ?_⟩)⟩⟩⟩
  have z560 := z557.trans s559
  replace t_p555 := TreeAt.same (s559) _ t_p555
  refine ⟨rfl, _, rfl, iteNS (by decide +kernel) ?_⟩
  clear z545 n_p546 s_p546 u_p546 z548 t_p546 n_p549 s_p549 u_p549 z551 t_p549 n_p552 s_p552 u_p552 z554 t_p552 n_p555 s_p555 u_p555 z557 t_p555 s559
  -- number_of([[], []], 3) != 2
  refine ⟨(by show 0 ≤ sizeLine; decide), fun p561 n_p561 => ?_⟩
  have s_p561 := same_new n_p561 (.lst [])
  have u_p561 : upd G558 p561 (.lst []) p561 = some (.lst []) := upd_same
  generalize upd G558 p561 (.lst []) = G562 at s_p561 u_p561 ⊢
  have z563 := z560.trans s_p561
  have t_p561 : TreeAt G562 (.ref p561) (.mk []) := tr_li u_p561 trs_nil
  refine ⟨(by show 0 ≤ sizeLine; decide), fun p564 n_p564 => ?_⟩
  have s_p564 := same_new n_p564 (.lst [])
  have u_p564 : upd G562 p564 (.lst []) p564 = some (.lst []) := upd_same
  generalize upd G562 p564 (.lst []) = G565 at s_p564 u_p564 ⊢
  have z566 := z563.trans s_p564
  replace t_p561 := TreeAt.same (s_p564) _ t_p561
  have t_p564 : TreeAt G565 (.ref p564) (.mk []) := tr_li u_p564 trs_nil
  refine ⟨(by show 2 ≤ sizeLine; decide), fun p567 n_p567 => ?_⟩
  have s_p567 := same_new n_p567 (.lst [V.ref p561, .ref p564])
  have u_p567 : upd G565 p567 (.lst [V.ref p561, .ref p564]) p567 = some (.lst [V.ref p561, .ref p564]) := upd_same
  generalize upd G565 p567 (.lst [V.ref p561, .ref p564]) = G568 at s_p567 u_p567 ⊢
  have z569 := z566.trans s_p567
  replace t_p561 := TreeAt.same (s_p567) _ t_p561
  replace t_p564 := TreeAt.same (s_p567) _ t_p564
  have t_p567 : TreeAt G568 (.ref p567) (.mk [(.mk []), (.mk [])]) := tr_li u_p567 (treesAt_c t_p561 (treesAt_c t_p564 trs_nil))
  refine ⟨_, _, rfl, .inl ⟨_, t_p567, ⟨by decide +kernel, by decide +kernel⟩, .inl ⟨3, rfl, by decide, Bits.mono (a := 100) (by show (3 : Nat) < 2 ^ 100; decide) (by decide), .inr (.inl ⟨by decide +kernel, by decide +kernel, fun G570 s571 => ?_⟩)⟩⟩⟩
  have z572 := z569.trans s571
  replace t_p567 := TreeAt.same (s571) _ t_p567
  refine ⟨rfl, _, rfl, iteNS (by decide +kernel) ?_⟩
  clear z560 n_p561 s_p561 u_p561 z563 t_p561 n_p564 s_p564 u_p564 z566 t_p564 n_p567 s_p567 u_p567 z569 t_p567 s571
  -- no_of(lambda: number_of([[], []], 2)) != 'base'
  refine ⟨LamX.Tabs.ext hT441 z572, fun G573 x574 hT575 => ?_⟩
  have xe576 := xe442.trans ((LamX.ExtN.of z572).trans x574)
  have z577 := Same.refl G573
  refine ⟨(by show 0 ≤ sizeLine; decide), fun p578 n_p578 => ?_⟩
  have s_p578 := same_new n_p578 (.lst [])
  have u_p578 : upd G573 p578 (.lst []) p578 = some (.lst []) := upd_same
  generalize upd G573 p578 (.lst []) = G579 at s_p578 u_p578 ⊢
  have z580 := z577.trans s_p578
  have t_p578 : TreeAt G579 (.ref p578) (.mk []) := tr_li u_p578 trs_nil
  refine ⟨(by show 0 ≤ sizeLine; decide), fun p581 n_p581 => ?_⟩
  have s_p581 := same_new n_p581 (.lst [])
  have u_p581 : upd G579 p581 (.lst []) p581 = some (.lst []) := upd_same
  generalize upd G579 p581 (.lst []) = G582 at s_p581 u_p581 ⊢
  have z583 := z580.trans s_p581
  replace t_p578 := TreeAt.same (s_p581) _ t_p578
  have t_p581 : TreeAt G582 (.ref p581) (.mk []) := tr_li u_p581 trs_nil
  refine ⟨(by show 2 ≤ sizeLine; decide), fun p584 n_p584 => ?_⟩
  have s_p584 := same_new n_p584 (.lst [V.ref p578, .ref p581])
  have u_p584 : upd G582 p584 (.lst [V.ref p578, .ref p581]) p584 = some (.lst [V.ref p578, .ref p581]) := upd_same
  generalize upd G582 p584 (.lst [V.ref p578, .ref p581]) = G585 at s_p584 u_p584 ⊢
  have z586 := z583.trans s_p584
  replace t_p578 := TreeAt.same (s_p584) _ t_p578
  replace t_p581 := TreeAt.same (s_p584) _ t_p581
  have t_p584 : TreeAt G585 (.ref p584) (.mk [(.mk []), (.mk [])]) := tr_li u_p584 (treesAt_c t_p578 (treesAt_c t_p581 trs_nil))
  refine ⟨_, _, rfl, .inl ⟨_, t_p584, ⟨by decide +kernel, by decide +kernel⟩, .inl ⟨2, rfl, by decide, Bits.mono (a := 100) (by show (2 : Nat) < 2 ^ 100; decide) (by decide), .inl ⟨by decide +kernel, fun G587 s588 => ?_⟩⟩⟩⟩
  have z589 := z586.trans s588
  replace t_p584 := TreeAt.same (s588) _ t_p584
  refine ⟨T.A_BadBase, true, false, rfl, rfl, T.ex_BadBase, PySem.W.exm_ref T.sb_HeadError T.hd_HeadError T.tt_HeadError T.su_BadBase, T.kt_BadBase_BadBase, T.kt_BadBase_TooGreat, by decide, fun G590 s591 => ?_⟩
  have z592 := z589.trans s591
  replace t_p584 := TreeAt.same (s591) _ t_p584
  refine ⟨rfl, _, rfl, iteNS (by decide +kernel) ?_⟩
  clear xe442 z572 x574 z577 n_p578 s_p578 u_p578 z580 t_p578 n_p581 s_p581 u_p581 z583 t_p581 n_p584 s_p584 u_p584 z586 t_p584 s588 z589 s591
  -- number_of([], 5) != 0
  refine ⟨(by show 0 ≤ sizeLine; decide), fun p593 n_p593 => ?_⟩
  have s_p593 := same_new n_p593 (.lst [])
  have u_p593 : upd G590 p593 (.lst []) p593 = some (.lst []) := upd_same
  generalize upd G590 p593 (.lst []) = G594 at s_p593 u_p593 ⊢
  have z595 := z592.trans s_p593
  have t_p593 : TreeAt G594 (.ref p593) (.mk []) := tr_li u_p593 trs_nil
  refine ⟨_, _, rfl, .inl ⟨_, t_p593, ⟨by decide +kernel, by decide +kernel⟩, .inl ⟨5, rfl, by decide, Bits.mono (a := 100) (by show (5 : Nat) < 2 ^ 100; decide) (by decide), .inr (.inl ⟨by decide +kernel, by decide +kernel, fun G596 s597 => ?_⟩)⟩⟩⟩
  have z598 := z595.trans s597
  replace t_p593 := TreeAt.same (s597) _ t_p593
  refine ⟨rfl, _, rfl, iteNS (by decide +kernel) ?_⟩
  clear z592 n_p593 s_p593 u_p593 z595 t_p593 s597
  -- [stepped(number_here, 2) for number_here in range(5)] != [0, 0, 2, 3, 26]
  refine ⟨_, rfl, by decide, by decide, fun D599 n_D599 => ?_⟩
  refine lc_it walk_range (fun i H' => Fill G596 H' D599 (((List.range i).map (fun n => ((val 3 (writtenT 2 n) - 1 : Nat) : Int))).map V.int)) (Fill.start n_D599) (fun _ _ _ _ => trivial) ?_ ?_
  · rintro i z J1 J2 hi g ⟨rfl, rfl⟩
    replace hi : i < 5 := hi
    have hk : ∀ i : Fin 5, knots (writtenT 2 i.val) ≤ 300 ∧ val 3 (writtenT 2 i.val) < GR := by decide +kernel
    refine ⟨rfl, _, rfl, _, _, rfl, .inl ⟨i, congrArg V.int (Int.zero_add _), Nat.lt_of_lt_of_le hi (by decide +kernel), .inl ⟨2, rfl, by decide, Bits.mono (a := 100) (by show (2 : Nat) < 2 ^ 100; decide) (by decide), .inl ⟨(hk ⟨i, hi⟩).1, (hk ⟨i, hi⟩).2, fun J3 s => ?_⟩⟩⟩⟩
    obtain ⟨h1, h2⟩ := g.more (v := .int ((val 3 (writtenT 2 i) - 1 : Nat) : Int)) s
    refine ⟨_, h1, ?_, ?_⟩
    · rw [List.length_map, List.length_map, List.length_range]
      exact Nat.lt_of_lt_of_le hi (by decide)
    · rw [List.range_succ, List.map_append, List.map_append]; exact h2
  intro G600 g
  replace g : Fill G596 G600 D599 (((List.range 5).map (fun n => ((val 3 (writtenT 2 n) - 1 : Nat) : Int))).map V.int) := g
  have z601 := z598.trans g.1
  have w_D599 := g.2.2
  refine ⟨(by show 5 ≤ sizeLine; decide), fun p602 n_p602 => ?_⟩
  have s_p602 := same_new n_p602 (.lst [V.int 0, .int 0, .int 2, .int 3, .int 26])
  have u_p602 : upd G600 p602 (.lst [V.int 0, .int 0, .int 2, .int 3, .int 26]) p602 = some (.lst [V.int 0, .int 0, .int 2, .int 3, .int 26]) := upd_same
  generalize upd G600 p602 (.lst [V.int 0, .int 0, .int 2, .int 3, .int 26]) = G603 at s_p602 u_p602 ⊢
  have z604 := z601.trans s_p602
  replace w_D599 := s_p602 _ _ w_D599
  have w_p602 : G603 p602 = some (.lst (([0, 0, 2, 3, 26] : List Int).map V.int)) := u_p602
  refine ne_ints (SqL.of w_D599) (SqL.of w_p602) ⟨_, rfl, iteNS (by decide +kernel) ?_⟩
  -- stepped(10, 10) != 10
  refine ⟨_, _, rfl, .inl ⟨10, rfl, by decide +kernel, .inl ⟨10, rfl, by decide +kernel, Bits.mono (a := 100) (by show (10 : Nat) < 2 ^ 100; decide) (by decide), .inl ⟨by decide +kernel, by decide +kernel, fun G605 s606 => ?_⟩⟩⟩⟩
  have z607 := z604.trans s606
  refine ⟨rfl, _, rfl, iteNS (by decide +kernel) ?_⟩
  clear z598 n_D599 g z601 w_D599 n_p602 s_p602 u_p602 z604 w_p602 s606
  -- stepped(9, 10) != 8
  refine ⟨_, _, rfl, .inl ⟨9, rfl, by decide +kernel, .inl ⟨10, rfl, by decide +kernel, Bits.mono (a := 100) (by show (10 : Nat) < 2 ^ 100; decide) (by decide), .inl ⟨by decide +kernel, by decide +kernel, fun G608 s609 => ?_⟩⟩⟩⟩
  have z610 := z607.trans s609
  refine ⟨rfl, _, rfl, iteNS (by decide +kernel) ?_⟩
  clear z607 s609
  -- text([]) != ''
  refine ⟨(by show 0 ≤ sizeLine; decide), fun p611 n_p611 => ?_⟩
  have s_p611 := same_new n_p611 (.lst [])
  have u_p611 : upd G608 p611 (.lst []) p611 = some (.lst []) := upd_same
  generalize upd G608 p611 (.lst []) = G612 at s_p611 u_p611 ⊢
  have z613 := z610.trans s_p611
  have t_p611 : TreeAt G612 (.ref p611) (.mk []) := tr_li u_p611 trs_nil
  refine ⟨_, rfl, .inl ⟨_, t_p611, ⟨by decide +kernel, by decide +kernel⟩, fun G614 s615 => ?_⟩⟩
  have z616 := z613.trans s615
  replace t_p611 := TreeAt.same (s615) _ t_p611
  refine ⟨rfl, _, rfl, iteNS (by decide +kernel) ?_⟩
  clear z610 n_p611 s_p611 u_p611 z613 t_p611 s615
  -- text([[], [[]]]) != '(())()'
  refine ⟨(by show 0 ≤ sizeLine; decide), fun p617 n_p617 => ?_⟩
  have s_p617 := same_new n_p617 (.lst [])
  have u_p617 : upd G614 p617 (.lst []) p617 = some (.lst []) := upd_same
  generalize upd G614 p617 (.lst []) = G618 at s_p617 u_p617 ⊢
  have z619 := z616.trans s_p617
  have t_p617 : TreeAt G618 (.ref p617) (.mk []) := tr_li u_p617 trs_nil
  refine ⟨(by show 0 ≤ sizeLine; decide), fun p620 n_p620 => ?_⟩
  have s_p620 := same_new n_p620 (.lst [])
  have u_p620 : upd G618 p620 (.lst []) p620 = some (.lst []) := upd_same
  generalize upd G618 p620 (.lst []) = G621 at s_p620 u_p620 ⊢
  have z622 := z619.trans s_p620
  replace t_p617 := TreeAt.same (s_p620) _ t_p617
  have t_p620 : TreeAt G621 (.ref p620) (.mk []) := tr_li u_p620 trs_nil
  refine ⟨(by show 1 ≤ sizeLine; decide), fun p623 n_p623 => ?_⟩
  have s_p623 := same_new n_p623 (.lst [V.ref p620])
  have u_p623 : upd G621 p623 (.lst [V.ref p620]) p623 = some (.lst [V.ref p620]) := upd_same
  generalize upd G621 p623 (.lst [V.ref p620]) = G624 at s_p623 u_p623 ⊢
  have z625 := z622.trans s_p623
  replace t_p617 := TreeAt.same (s_p623) _ t_p617
  replace t_p620 := TreeAt.same (s_p623) _ t_p620
  have t_p623 : TreeAt G624 (.ref p623) (.mk [(.mk [])]) := tr_li u_p623 (treesAt_c t_p620 trs_nil)
  refine ⟨(by show 2 ≤ sizeLine; decide), fun p626 n_p626 => ?_⟩
  have s_p626 := same_new n_p626 (.lst [V.ref p617, .ref p623])
  have u_p626 : upd G624 p626 (.lst [V.ref p617, .ref p623]) p626 = some (.lst [V.ref p617, .ref p623]) := upd_same
  generalize upd G624 p626 (.lst [V.ref p617, .ref p623]) = G627 at s_p626 u_p626 ⊢
  have z628 := z625.trans s_p626
  replace t_p617 := TreeAt.same (s_p626) _ t_p617
  replace t_p623 := TreeAt.same (s_p626) _ t_p623
  have t_p626 : TreeAt G627 (.ref p626) (.mk [(.mk []), (.mk [(.mk [])])]) := tr_li u_p626 (treesAt_c t_p617 (treesAt_c t_p623 trs_nil))
  refine ⟨_, rfl, .inl ⟨_, t_p626, ⟨by decide +kernel, by decide +kernel⟩, fun G629 s630 => ?_⟩⟩
  have z631 := z628.trans s630
  replace t_p626 := TreeAt.same (s630) _ t_p626
  refine ⟨rfl, _, rfl, iteNS (by decide +kernel) ?_⟩
  clear z616 n_p617 s_p617 u_p617 z619 t_p617 n_p620 s_p620 u_p620 z622 t_p620 n_p623 s_p623 u_p623 z625 t_p623 n_p626 s_p626 u_p626 z628 t_p626 s630
  -- read('()(())') != [[], [[]]]
  have hm_m634 : rdL [[]] ([40, 41, 40, 40, 41, 41]) = some [[(.mk []), (.mk [(.mk [])])]] := by decide +kernel
  refine ⟨_, rfl, .inl ⟨[40, 41, 40, 40, 41, 41], by decide +kernel, brk_dec2 (by decide +kernel), by decide +kernel, fun m634 e_m634 G632 r633 n_r633 => ?_, fun hn => absurd hm_m634 (hn _)⟩⟩
  rw [hm_m634] at e_m634
  cases e_m634
  have z635 := z631.trans n_r633.1
  have t_r633 := n_r633.at_
  refine ⟨(by show 0 ≤ sizeLine; decide), fun p636 n_p636 => ?_⟩
  have s_p636 := same_new n_p636 (.lst [])
  have u_p636 : upd G632 p636 (.lst []) p636 = some (.lst []) := upd_same
  generalize upd G632 p636 (.lst []) = G637 at s_p636 u_p636 ⊢
  have z638 := z635.trans s_p636
  replace t_r633 := TreeAt.same (s_p636) _ t_r633
  have t_p636 : TreeAt G637 (.ref p636) (.mk []) := tr_li u_p636 trs_nil
  refine ⟨(by show 0 ≤ sizeLine; decide), fun p639 n_p639 => ?_⟩
  have s_p639 := same_new n_p639 (.lst [])
  have u_p639 : upd G637 p639 (.lst []) p639 = some (.lst []) := upd_same
  generalize upd G637 p639 (.lst []) = G640 at s_p639 u_p639 ⊢
  have z641 := z638.trans s_p639
  replace t_r633 := TreeAt.same (s_p639) _ t_r633
  replace t_p636 := TreeAt.same (s_p639) _ t_p636
  have t_p639 : TreeAt G640 (.ref p639) (.mk []) := tr_li u_p639 trs_nil
  refine ⟨(by show 1 ≤ sizeLine; decide), fun p642 n_p642 => ?_⟩
  have s_p642 := same_new n_p642 (.lst [V.ref p639])
  have u_p642 : upd G640 p642 (.lst [V.ref p639]) p642 = some (.lst [V.ref p639]) := upd_same
  generalize upd G640 p642 (.lst [V.ref p639]) = G643 at s_p642 u_p642 ⊢
  have z644 := z641.trans s_p642
  replace t_r633 := TreeAt.same (s_p642) _ t_r633
  replace t_p636 := TreeAt.same (s_p642) _ t_p636
  replace t_p639 := TreeAt.same (s_p642) _ t_p639
  have t_p642 : TreeAt G643 (.ref p642) (.mk [(.mk [])]) := tr_li u_p642 (treesAt_c t_p639 trs_nil)
  refine ⟨(by show 2 ≤ sizeLine; decide), fun p645 n_p645 => ?_⟩
  have s_p645 := same_new n_p645 (.lst [V.ref p636, .ref p642])
  have u_p645 : upd G643 p645 (.lst [V.ref p636, .ref p642]) p645 = some (.lst [V.ref p636, .ref p642]) := upd_same
  generalize upd G643 p645 (.lst [V.ref p636, .ref p642]) = G646 at s_p645 u_p645 ⊢
  have z647 := z644.trans s_p645
  replace t_r633 := TreeAt.same (s_p645) _ t_r633
  replace t_p636 := TreeAt.same (s_p645) _ t_p636
  replace t_p642 := TreeAt.same (s_p645) _ t_p642
  have t_p645 : TreeAt G646 (.ref p645) (.mk [(.mk []), (.mk [(.mk [])])]) := tr_li u_p645 (treesAt_c t_p636 (treesAt_c t_p642 trs_nil))
  refine ne_trees t_r633 t_p645 (by decide +kernel) (by decide +kernel) ⟨_, rfl, iteNS (by decide +kernel) ?_⟩
  clear z631 hm_m634 n_r633 z635 t_r633 n_p636 s_p636 u_p636 z638 t_p636 n_p639 s_p639 u_p639 z641 t_p639 n_p642 s_p642 u_p642 z644 t_p642 n_p645 s_p645 u_p645 t_p645
  -- read('') != []
  have hm_m650 : rdL [[]] ([]) = some [[]] := by decide +kernel
  refine ⟨_, rfl, .inl ⟨[], by decide +kernel, brk_dec2 (by decide +kernel), by decide +kernel, fun m650 e_m650 G648 r649 n_r649 => ?_, fun hn => absurd hm_m650 (hn _)⟩⟩
  rw [hm_m650] at e_m650
  cases e_m650
  have z651 := z647.trans n_r649.1
  have t_r649 := n_r649.at_
  refine ⟨(by show 0 ≤ sizeLine; decide), fun p652 n_p652 => ?_⟩
  have s_p652 := same_new n_p652 (.lst [])
  have u_p652 : upd G648 p652 (.lst []) p652 = some (.lst []) := upd_same
  generalize upd G648 p652 (.lst []) = G653 at s_p652 u_p652 ⊢
  have z654 := z651.trans s_p652
  replace t_r649 := TreeAt.same (s_p652) _ t_r649
  have t_p652 : TreeAt G653 (.ref p652) (.mk []) := tr_li u_p652 trs_nil
  refine ne_trees t_r649 t_p652 (by decide +kernel) (by decide +kernel) ⟨_, rfl, iteNS (by decide +kernel) ?_⟩
  clear z647 hm_m650 n_r649 z651 t_r649 n_p652 s_p652 u_p652 t_p652
  -- read(text(told([[], [[], [[]]]]))) == told([[], [[], [[]]]])
  refine ⟨(by show 0 ≤ sizeLine; decide), fun p655 n_p655 => ?_⟩
  have s_p655 := same_new n_p655 (.lst [])
  have u_p655 : upd G653 p655 (.lst []) p655 = some (.lst []) := upd_same
  generalize upd G653 p655 (.lst []) = G656 at s_p655 u_p655 ⊢
  have z657 := z654.trans s_p655
  have t_p655 : TreeAt G656 (.ref p655) (.mk []) := tr_li u_p655 trs_nil
  refine ⟨(by show 0 ≤ sizeLine; decide), fun p658 n_p658 => ?_⟩
  have s_p658 := same_new n_p658 (.lst [])
  have u_p658 : upd G656 p658 (.lst []) p658 = some (.lst []) := upd_same
  generalize upd G656 p658 (.lst []) = G659 at s_p658 u_p658 ⊢
  have z660 := z657.trans s_p658
  replace t_p655 := TreeAt.same (s_p658) _ t_p655
  have t_p658 : TreeAt G659 (.ref p658) (.mk []) := tr_li u_p658 trs_nil
  refine ⟨(by show 0 ≤ sizeLine; decide), fun p661 n_p661 => ?_⟩
  have s_p661 := same_new n_p661 (.lst [])
  have u_p661 : upd G659 p661 (.lst []) p661 = some (.lst []) := upd_same
  generalize upd G659 p661 (.lst []) = G662 at s_p661 u_p661 ⊢
  have z663 := z660.trans s_p661
  replace t_p655 := TreeAt.same (s_p661) _ t_p655
  replace t_p658 := TreeAt.same (s_p661) _ t_p658
  have t_p661 : TreeAt G662 (.ref p661) (.mk []) := tr_li u_p661 trs_nil
  refine ⟨(by show 1 ≤ sizeLine; decide), fun p664 n_p664 => ?_⟩
  have s_p664 := same_new n_p664 (.lst [V.ref p661])
  have u_p664 : upd G662 p664 (.lst [V.ref p661]) p664 = some (.lst [V.ref p661]) := upd_same
  generalize upd G662 p664 (.lst [V.ref p661]) = G665 at s_p664 u_p664 ⊢
  have z666 := z663.trans s_p664
  replace t_p655 := TreeAt.same (s_p664) _ t_p655
  replace t_p658 := TreeAt.same (s_p664) _ t_p658
  replace t_p661 := TreeAt.same (s_p664) _ t_p661
  have t_p664 : TreeAt G665 (.ref p664) (.mk [(.mk [])]) := tr_li u_p664 (treesAt_c t_p661 trs_nil)
  refine ⟨(by show 2 ≤ sizeLine; decide), fun p667 n_p667 => ?_⟩
  have s_p667 := same_new n_p667 (.lst [V.ref p658, .ref p664])
  have u_p667 : upd G665 p667 (.lst [V.ref p658, .ref p664]) p667 = some (.lst [V.ref p658, .ref p664]) := upd_same
  generalize upd G665 p667 (.lst [V.ref p658, .ref p664]) = G668 at s_p667 u_p667 ⊢
  have z669 := z666.trans s_p667
  replace t_p655 := TreeAt.same (s_p667) _ t_p655
  replace t_p658 := TreeAt.same (s_p667) _ t_p658
  replace t_p664 := TreeAt.same (s_p667) _ t_p664
  have t_p667 : TreeAt G668 (.ref p667) (.mk [(.mk []), (.mk [(.mk [])])]) := tr_li u_p667 (treesAt_c t_p658 (treesAt_c t_p664 trs_nil))
  refine ⟨(by show 2 ≤ sizeLine; decide), fun p670 n_p670 => ?_⟩
  have s_p670 := same_new n_p670 (.lst [V.ref p655, .ref p667])
  have u_p670 : upd G668 p670 (.lst [V.ref p655, .ref p667]) p670 = some (.lst [V.ref p655, .ref p667]) := upd_same
  generalize upd G668 p670 (.lst [V.ref p655, .ref p667]) = G671 at s_p670 u_p670 ⊢
  have z672 := z669.trans s_p670
  replace t_p655 := TreeAt.same (s_p670) _ t_p655
  replace t_p667 := TreeAt.same (s_p670) _ t_p667
  have t_p670 : TreeAt G671 (.ref p670) (.mk [(.mk []), (.mk [(.mk []), (.mk [(.mk [])])])]) := tr_li u_p670 (treesAt_c t_p655 (treesAt_c t_p667 trs_nil))
  refine ⟨_, rfl, .inl ⟨_, t_p670, ⟨by decide +kernel, by decide +kernel⟩, fun G673 r674 n_r674 => ?_⟩⟩
  have z675 := z672.trans n_r674.1
  replace t_p670 := TreeAt.same (n_r674.1) _ t_p670
  have t_r674 := n_r674.at_
  refine ⟨_, rfl, .inl ⟨_, t_r674, ⟨by decide +kernel, by decide +kernel⟩, fun G676 s677 => ?_⟩⟩
  have z678 := z675.trans s677
  replace t_p670 := TreeAt.same (s677) _ t_p670
  replace t_r674 := TreeAt.same (s677) _ t_r674
  have hm_m681 : rdL [[]] (txt (told (told (.mk [(.mk []), (.mk [(.mk []), (.mk [(.mk [])])])])))) = some [[(.mk [(.mk [(.mk [])]), (.mk [])]), (.mk [])]] := by decide +kernel
  refine ⟨_, rfl, .inl ⟨txt (told (told (.mk [(.mk []), (.mk [(.mk []), (.mk [(.mk [])])])]))), rfl, txt_brk _, by decide +kernel, fun m681 e_m681 G679 r680 n_r680 => ?_, fun hn => absurd hm_m681 (hn _)⟩⟩
  rw [hm_m681] at e_m681
  cases e_m681
  have z682 := z678.trans n_r680.1
  replace t_p670 := TreeAt.same (n_r680.1) _ t_p670
  replace t_r674 := TreeAt.same (n_r680.1) _ t_r674
  have t_r680 := n_r680.at_
  refine ⟨(by show 0 ≤ sizeLine; decide), fun p683 n_p683 => ?_⟩
  have s_p683 := same_new n_p683 (.lst [])
  have u_p683 : upd G679 p683 (.lst []) p683 = some (.lst []) := upd_same
  generalize upd G679 p683 (.lst []) = G684 at s_p683 u_p683 ⊢
  have z685 := z682.trans s_p683
  replace t_p670 := TreeAt.same (s_p683) _ t_p670
  replace t_r674 := TreeAt.same (s_p683) _ t_r674
  replace t_r680 := TreeAt.same (s_p683) _ t_r680
  have t_p683 : TreeAt G684 (.ref p683) (.mk []) := tr_li u_p683 trs_nil
  refine ⟨(by show 0 ≤ sizeLine; decide), fun p686 n_p686 => ?_⟩
  have s_p686 := same_new n_p686 (.lst [])
  have u_p686 : upd G684 p686 (.lst []) p686 = some (.lst []) := upd_same
  generalize upd G684 p686 (.lst []) = G687 at s_p686 u_p686 ⊢
  have z688 := z685.trans s_p686
  replace t_p670 := TreeAt.same (s_p686) _ t_p670
  replace t_r674 := TreeAt.same (s_p686) _ t_r674
  replace t_r680 := TreeAt.same (s_p686) _ t_r680
  replace t_p683 := TreeAt.same (s_p686) _ t_p683
  have t_p686 : TreeAt G687 (.ref p686) (.mk []) := tr_li u_p686 trs_nil
  refine ⟨(by show 0 ≤ sizeLine; decide), fun p689 n_p689 => ?_⟩
  have s_p689 := same_new n_p689 (.lst [])
  have u_p689 : upd G687 p689 (.lst []) p689 = some (.lst []) := upd_same
  generalize upd G687 p689 (.lst []) = G690 at s_p689 u_p689 ⊢
  have z691 := z688.trans s_p689
  replace t_p670 := TreeAt.same (s_p689) _ t_p670
  replace t_r674 := TreeAt.same (s_p689) _ t_r674
  replace t_r680 := TreeAt.same (s_p689) _ t_r680
  replace t_p683 := TreeAt.same (s_p689) _ t_p683
  replace t_p686 := TreeAt.same (s_p689) _ t_p686
  have t_p689 : TreeAt G690 (.ref p689) (.mk []) := tr_li u_p689 trs_nil
  refine ⟨(by show 1 ≤ sizeLine; decide), fun p692 n_p692 => ?_⟩
  have s_p692 := same_new n_p692 (.lst [V.ref p689])
  have u_p692 : upd G690 p692 (.lst [V.ref p689]) p692 = some (.lst [V.ref p689]) := upd_same
  generalize upd G690 p692 (.lst [V.ref p689]) = G693 at s_p692 u_p692 ⊢
  have z694 := z691.trans s_p692
  replace t_p670 := TreeAt.same (s_p692) _ t_p670
  replace t_r674 := TreeAt.same (s_p692) _ t_r674
  replace t_r680 := TreeAt.same (s_p692) _ t_r680
  replace t_p683 := TreeAt.same (s_p692) _ t_p683
  replace t_p686 := TreeAt.same (s_p692) _ t_p686
  replace t_p689 := TreeAt.same (s_p692) _ t_p689
  have t_p692 : TreeAt G693 (.ref p692) (.mk [(.mk [])]) := tr_li u_p692 (treesAt_c t_p689 trs_nil)
  refine ⟨(by show 2 ≤ sizeLine; decide), fun p695 n_p695 => ?_⟩
  have s_p695 := same_new n_p695 (.lst [V.ref p686, .ref p692])
  have u_p695 : upd G693 p695 (.lst [V.ref p686, .ref p692]) p695 = some (.lst [V.ref p686, .ref p692]) := upd_same
  generalize upd G693 p695 (.lst [V.ref p686, .ref p692]) = G696 at s_p695 u_p695 ⊢
  have z697 := z694.trans s_p695
  replace t_p670 := TreeAt.same (s_p695) _ t_p670
  replace t_r674 := TreeAt.same (s_p695) _ t_r674
  replace t_r680 := TreeAt.same (s_p695) _ t_r680
  replace t_p683 := TreeAt.same (s_p695) _ t_p683
  replace t_p686 := TreeAt.same (s_p695) _ t_p686
  replace t_p692 := TreeAt.same (s_p695) _ t_p692
  have t_p695 : TreeAt G696 (.ref p695) (.mk [(.mk []), (.mk [(.mk [])])]) := tr_li u_p695 (treesAt_c t_p686 (treesAt_c t_p692 trs_nil))
  refine ⟨(by show 2 ≤ sizeLine; decide), fun p698 n_p698 => ?_⟩
  have s_p698 := same_new n_p698 (.lst [V.ref p683, .ref p695])
  have u_p698 : upd G696 p698 (.lst [V.ref p683, .ref p695]) p698 = some (.lst [V.ref p683, .ref p695]) := upd_same
  generalize upd G696 p698 (.lst [V.ref p683, .ref p695]) = G699 at s_p698 u_p698 ⊢
  have z700 := z697.trans s_p698
  replace t_p670 := TreeAt.same (s_p698) _ t_p670
  replace t_r674 := TreeAt.same (s_p698) _ t_r674
  replace t_r680 := TreeAt.same (s_p698) _ t_r680
  replace t_p683 := TreeAt.same (s_p698) _ t_p683
  replace t_p695 := TreeAt.same (s_p698) _ t_p695
  have t_p698 : TreeAt G699 (.ref p698) (.mk [(.mk []), (.mk [(.mk []), (.mk [(.mk [])])])]) := tr_li u_p698 (treesAt_c t_p683 (treesAt_c t_p695 trs_nil))
  refine ⟨_, rfl, .inl ⟨_, t_p698, ⟨by decide +kernel, by decide +kernel⟩, fun G701 r702 n_r702 => ?_⟩⟩
  have z703 := z700.trans n_r702.1
  replace t_p670 := TreeAt.same (n_r702.1) _ t_p670
  replace t_r674 := TreeAt.same (n_r702.1) _ t_r674
  replace t_r680 := TreeAt.same (n_r702.1) _ t_r680
  replace t_p698 := TreeAt.same (n_r702.1) _ t_p698
  have t_r702 := n_r702.at_
  refine eq_trees t_r680 t_r702 (by decide +kernel) (by decide +kernel) ?_
  rw [decide_eq_true (by decide +kernel)]
  exact q _ (xe576.trans (LamX.ExtN.of z703))
end
section
variable {P : Program} {w : World} {K : PySem.W.Frag} {mg : Str → Option Value} {base : Heap}
/-! ### law -/
theorem small_all : ∀ n : Fin 60, ∀ b : Fin 4, knots (writtenT (b.val + 2) n.val) ≤ 300 ∧ depth (writtenT (b.val + 2) n.val) ≤ 40 ∧ cw (b.val + 2) (told (writtenT (b.val + 2) n.val)) = true ∧ val (b.val + 2) (writtenT (b.val + 2) n.val) < GR := by decide +kernel
theorem pln_ints {H : Hp} {r : Addr} {ns : List Int} {n : Nat} (h : H r = some (.lst (ns.map V.int))) (hl : ns.length ≤ 1000) : Pln H (n + 2) (.ref r) :=
  .lst h (by rw [List.length_map]; exact hl) fun x hx => by
    obtain ⟨i, _, rfl⟩ := List.mem_map.mp hx
    exact .int n i
theorem pln_rs {H : Hp} : ∀ {rs : List Addr} {ws : List (List Int)}, WaysR H rs ws → (∀ u, u ∈ ws → u.length ≤ 1000) → ∀ r, r ∈ rs → Pln H 2 (.ref r)
  | [], _, _, _, r, hr => by cases hr
  | _ :: _, [], h, _, _, _ => h.elim
  | x :: rs, u :: ws, h, hl, r, hr => by
    rcases List.mem_cons.mp hr with e | hr
    · rw [e]; exact pln_ints h.1 (hl u List.mem_cons_self)
    · exact pln_rs h.2 (fun u' hu => hl u' (List.mem_cons_of_mem _ hu)) r hr
theorem pln_ways {H H' : Hp} {D : Addr} {rs : List Addr} {t : Tt} (nw : NewW H H' D rs (wsI (headsT t))) (ho : okT t) : Pln H' 3 (.ref D) := by
  have l1 := nw.2.2.2.1.len
  have l2 := heads_len t
  have k := ho.1
  have l3 : (wsI (headsT t)).length = (headsT t).length := by unfold wsI; rw [List.length_map]
  refine .lst nw.2.2.1 (by rw [List.length_map]; omega) fun x hx => ?_
  obtain ⟨r, hr, rfl⟩ := List.mem_map.mp hx
  refine pln_rs nw.2.2.2.1 (fun u hu => ?_) r hr
  unfold wsI at hu
  obtain ⟨v, hv, rfl⟩ := List.mem_map.mp hu
  have := (heads_way t v hv).2
  rw [wI_len]
  have := ho.2
  omega
theorem cutV_take63 (xs : List V) (k : Nat) : cutV xs none (some (k : Int)) = xs.take k := by
  unfold cutV
  rw [HT.sIx_none, HT.sIx_nat, List.drop_zero, Nat.sub_zero]
  by_cases h : k ≤ xs.length
  · rw [Nat.min_eq_left h]
  · rw [Nat.min_eq_right (by omega), List.take_length, List.take_of_length_le (by omega)]
def spLaw (K : PySem.W.Frag) (T : Txt K mg) : Sp := fun vs H Q _ => ∃ (a : Addr) (ns : List Int), vs = [.ref a] ∧ SqL K H a (ns.map V.int) ∧ ns.length ≤ 63 ∧ (∀ n, n ∈ ns → Bits n 1049000) ∧ LamX.Tabs (lamT T) H ∧ ∀ H', Q (.bl true) H'
theorem extn_seq {H H' : Hp} {a : Addr} {xs : List V} (e : LamX.ExtN H H') (h : SqL K H a xs) : SqL K H' a xs := by
  rcases h with (h | ⟨o, h⟩) | h
  · exact .inl (.inl (e _ _ h (fun ps z => by cases z)))
  · exact .inl (.inr ⟨o, e _ _ h (fun ps z => by cases z)⟩)
  · exact .inr h
theorem sum_bits {a : Nat} : ∀ l : List Int, (∀ n, n ∈ l → Bits n a) → Bits l.sum (a + l.length)
  | [], _ => by
    show (0 : Int).natAbs < 2 ^ (a + 0)
    exact Nat.pow_pos (by decide)
  | x :: l, h => by
    rw [List.sum_cons, List.length_cons]
    exact ((h x List.mem_cons_self).mono (Nat.le_add_right _ _)).add (sum_bits l fun n hn => h n (List.mem_cons_of_mem _ hn))
theorem ok_law (T : Txt K mg) (TB : LamX.TabB base mg T.c__law_promises_right T.P__law_promises_right) : FnOk P w K mg base CX0 48 T.a_law T.d_law ["_law_script"] (spLaw K T) := by
  have G__law_promises_right := ok__law_promises_right (P := P) (w := w) (base := base) T TB
  have G__law_number := ok__law_number (P := P) (w := w) (base := base) T
  have G__law_plain := ok__law_plain (P := P) (w := w) (base := base) T 4
  have G_heads := ok_heads (P := P) (w := w) (base := base) T
  have G_compare := ok_compare (P := P) (w := w) (base := base) T
  have G_written := ok_written (P := P) (w := w) (base := base) T
  have G_number_of := ok_number_of (P := P) (w := w) (base := base) T
  refine T.F_law.ok sc_law (fun vs H Q E h => ?_) (fun cdv A outer s H vs Q E hr h => ?_)
  · obtain ⟨a, ns, rfl, _⟩ := h; rfl
  obtain ⟨a, ns, rfl, hS, h63, hB, hT, q⟩ := h
  have R__law_promises_right : Room 47 _ := hr
  have R__law_number : Room 1 _ := hr.mono (by omega)
  have R__law_plain : Room 4 _ := hr.mono (by omega)
  have R_heads : Room 44 _ := hr.mono (by omega)
  have R_compare : Room 44 _ := hr.mono (by omega)
  have R_written : Room 7 _ := hr.mono (by omega)
  have R_number_of : Room 44 _ := hr.mono (by omega)
  refine ⟨_, (pss_cons (ps_if (pt_not (pt_val (pe_call0 G__law_promises_right R__law_promises_right (by rfl) T.m__law_promises_right T.k__law_promises_right T.b__law_promises_right .nil pass0))) (pss_one (ps_ret pe_bl)) pss_nil)
      (pss_cons (ps_set (i := 1) sc_law.nd rfl (Or.inl rfl) (pe_callB call_abs (by rfl) T.z_abs (by decide +kernel) (pa_cons (pe_callB (r := rSum K) (cr_sum rfl) (by rfl) T.z_sum (by decide +kernel) (pa_cons (pe_slice (r := rSlL K) sl_list (pv 0) po_none (po_some pe_int)) pa_nil)) pa_nil)))
      (pss_cons (ps_par (i := 2) (j := 3) rfl sc_law.nd rfl rfl (by decide) rfl rfl (pa_cons (pe_op op_mod (pe_op op_fdivW (pe_callB call_abs (by rfl) T.z_abs (by decide +kernel) (pa_cons (pe_call G__law_number R__law_number rfl T.m__law_number T.k__law_number T.b__law_number .nil pass0 (pa_cons (pv 1) (pa_cons pe_int (pa_cons pe_int pa_nil)))) pa_nil)) pe_int) pe_int) (pa_cons (pe_op op_add pe_int (pe_op op_mod (pv 1) pe_int)) pa_nil)) (by rfl))
      (pss_cons (ps_set (i := 4) sc_law.nd rfl (Or.inl rfl) (pe_call G_written R_written rfl T.m_written T.k_written T.b_written .nil passLN (pa_cons (pv 2) (pa_cons (pv 3) pa_nil))))
      (pss_cons (ps_set (i := 5) sc_law.nd rfl (Or.inl rfl) (pe_lst (pa_cons (pe_call G_heads R_heads rfl T.m_heads T.k_heads T.b_heads .nil passLN (pa_cons (pv 4) pa_nil)) (pa_cons (pe_call G_heads R_heads rfl T.m_heads T.k_heads T.b_heads .nil passLN (pa_cons (pe_lst pa_nil) pa_nil)) (pa_cons (pe_call G_heads R_heads rfl T.m_heads T.k_heads T.b_heads .nil passLN (pa_cons (pe_lst (pa_cons (pe_lst pa_nil) pa_nil)) pa_nil)) (pa_cons (pe_call G_heads R_heads rfl T.m_heads T.k_heads T.b_heads .nil passLN (pa_cons (pe_lst (pa_cons (pe_lst (pa_cons (pe_lst pa_nil) pa_nil)) (pa_cons (pe_lst pa_nil) pa_nil))) pa_nil)) (pa_cons (pe_call G_compare R_compare rfl T.m_compare T.k_compare T.b_compare .nil passLN (pa_cons (pv 4) (pa_cons (pe_lst pa_nil) pa_nil))) (pa_cons (pe_call G_compare R_compare rfl T.m_compare T.k_compare T.b_compare .nil passLN (pa_cons (pe_lst pa_nil) (pa_cons (pe_lst (pa_cons (pe_lst pa_nil) pa_nil)) pa_nil))) pa_nil))))))))
      (pss_cons (ps_set (i := 5) sc_law.nd rfl (Or.inl rfl) (pe_op op_cat (pv 5) (pe_lst (pa_cons (pe_call G_compare R_compare rfl T.m_compare T.k_compare T.b_compare .nil passLN (pa_cons (pv 4) (pa_cons (pv 4) pa_nil))) pa_nil))))
      (pss_cons (ps_set (i := 5) sc_law.nd rfl (Or.inl rfl) (pe_op op_cat (pv 5) (pe_lst (pa_cons (pe_call G_compare R_compare rfl T.m_compare T.k_compare T.b_compare .nil passLN (pa_cons (pe_lst (pa_cons (pe_lst pa_nil) pa_nil)) (pa_cons (pe_lst pa_nil) pa_nil))) (pa_cons (pe_call G_compare R_compare rfl T.m_compare T.k_compare T.b_compare .nil passLN (pa_cons (pe_lst (pa_cons (pe_lst (pa_cons (pe_lst pa_nil) pa_nil)) pa_nil)) (pa_cons (pe_lst (pa_cons (pe_lst pa_nil) (pa_cons (pe_lst pa_nil) pa_nil))) pa_nil))) (pa_cons (pe_call G_number_of R_number_of rfl T.m_number_of T.k_number_of T.b_number_of .nil passLN (pa_cons (pv 4) (pa_cons (pv 3) pa_nil))) (pa_cons (pe_call G_number_of R_number_of rfl T.m_number_of T.k_number_of T.b_number_of .nil passLN (pa_cons (pe_lst pa_nil) (pa_cons pe_int pa_nil))) pa_nil)))))))
      (pss_cons (ps_set (i := 5) sc_law.nd rfl (Or.inl rfl) (pe_op op_cat (pv 5) (pe_lst (pa_cons (pe_call G_number_of R_number_of rfl T.m_number_of T.k_number_of T.b_number_of .nil passLN (pa_cons (pe_lst (pa_cons (pe_lst pa_nil) pa_nil)) (pa_cons pe_int pa_nil))) pa_nil))))
      (pss_one (ps_ret (pe_call G__law_plain R__law_plain rfl T.m__law_plain T.k__law_plain T.b__law_plain .nil pass0 (pa_cons (pv 5) pa_nil)))))))))))), ?_⟩
  refine ⟨rfl, hT, fun H1 x1 => ⟨_, rfl, iteF ?_⟩⟩
  have hS1 := extn_seq x1 hS
  refine ⟨_, rfl, _, rfl, a, _, rfl, hS1, fun p np => ?_⟩
  have e63 : cutV (ns.map V.int) none (some 63) = (ns.take 63).map V.int := by
    have h := cutV_take63 (ns.map V.int) 63
    rw [List.map_take]
    exact h
  refine ⟨p, ns.take 63, rfl, SqL.of (by rw [upd_same, e63]), _, rfl, ?_⟩
  have bw : Bits (ns.take 63).sum NB := by
    refine (sum_bits (a := 1049000) _ fun n hn => hB n (List.mem_of_mem_take hn)).mono ?_
    have : 1049000 + 63 ≤ NB := by decide
    rw [List.length_take]; omega
  have ba : Bits (if (ns.take 63).sum < 0 then -(ns.take 63).sum else (ns.take 63).sum) NB := by
    by_cases c : (ns.take 63).sum < 0
    · rw [if_pos c]; exact bw.le (by omega)
    · rw [if_neg c]; exact bw
  generalize upd H1 p (.lst (cutV (ns.map V.int) none (some 63))) = H2
  show tSeq _ _ _ [some (V.ref a), some (.int (if (ns.take 63).sum < 0 then -(ns.take 63).sum else (ns.take 63).sum)), _, _, _, _] _
  generalize (if (ns.take 63).sum < 0 then -(ns.take 63).sum else (ns.take 63).sum) = wh at ba ⊢
  refine ⟨_, rfl, wh, 7, 3, rfl, ba, Bits.mono (a := 3) (by show (7 : Nat) < 8; decide) (by decide), by decide, fun z _ => ?_⟩
  refine ⟨_, rfl, _, _, rfl, rfl, wide_div (b := 2) (by decide) (by decide) (by decide) (by decide), _, _, rfl, rfl, (by show (0 : Int) < 60; decide), _, rfl, _, _, rfl, rfl, (by show (0 : Int) < 4; decide), _, _, rfl, rfl, _, _, rfl, ?_⟩
  have n0 := Int.emod_nonneg ((if z < 0 then -z else z) / 3) (b := 60) (by decide)
  have n1 := Int.emod_lt_of_pos ((if z < 0 then -z else z) / 3) (b := 60) (by decide)
  have b0 := Int.emod_nonneg wh (b := 4) (by decide)
  have b1 := Int.emod_lt_of_pos wh (b := 4) (by decide)
  show tSeq _ _ _ [_, _, some (V.int ((if z < 0 then -z else z) / 3 % 60)), some (.int (2 + wh % 4)), _, _] _
  generalize (if z < 0 then -z else z) / 3 % 60 = ni at n0 n1 ⊢
  generalize wh % 4 = bi at b0 b1 ⊢
  obtain ⟨n, rfl⟩ : ∃ n : Nat, ni = (n : Int) := ⟨ni.toNat, by omega⟩
  obtain ⟨b', rfl⟩ : ∃ b : Nat, bi = (b : Int) := ⟨bi.toNat, by omega⟩
  have eb : (2 : Int) + (b' : Int) = ((b' + 2 : Nat) : Int) := by omega
  rw [eb]
  obtain ⟨k1, k2, k3, k4⟩ := small_all ⟨n, by omega⟩ ⟨b', by omega⟩
  simp only at k1 k2 k3 k4
  have bb : Bits ((b' + 2 : Nat) : Int) 1000 := Bits.mono (a := 3) (Bits.lt (n := 8) (by omega) (by omega) (by decide)) (by decide)
  have gn : n < GR := Nat.lt_of_lt_of_le (m := 60) (by omega) (by decide +kernel)
  have ow : okT (writtenT (b' + 2) n) := ⟨k1, k2⟩
  have oz : okT (.mk []) := ⟨by decide +kernel, by decide +kernel⟩
  have o1 : okT (.mk [.mk []]) := ⟨by decide +kernel, by decide +kernel⟩
  have o2 : okT (.mk [.mk [.mk []], .mk []]) := ⟨by decide +kernel, by decide +kernel⟩
  have o3 : okT (.mk [.mk [.mk []]]) := ⟨by decide +kernel, by decide +kernel⟩
  have o4 : okT (.mk [.mk [], .mk []]) := ⟨by decide +kernel, by decide +kernel⟩
  refine ⟨_, rfl, _, rfl, _, _, rfl, .inl ⟨n, rfl, gn, .inl ⟨b' + 2, rfl, by omega, bb, .inl ⟨k1, fun H3 v n3 => ?_⟩⟩⟩⟩
  have tW := n3.at_
  clear n3
  generalize writtenT (b' + 2) n = W at k1 k2 k3 k4 ow tW
  -- heads
  refine ⟨_, rfl, v, rfl, .inl ⟨W, tW, ow, fun H4 D1 rs1 w1 => ?_⟩⟩
  have q1 := pln_ways w1 ow
  refine ⟨(by show 0 ≤ sizeLine; decide), fun a1 n_a1 => ?_⟩
  have s_a1 := same_new n_a1 (.lst [])
  have u_a1 : upd H4 a1 (.lst []) a1 = some (.lst []) := upd_same
  generalize upd H4 a1 (.lst []) = H5 at s_a1 u_a1 ⊢
  refine ⟨_, rfl, .inl ⟨_, nil_tree u_a1, oz, fun H6 D2 rs2 w2 => ?_⟩⟩
  have q2 := pln_ways w2 oz
  refine ⟨(by show 0 ≤ sizeLine; decide), fun a2 n_a2 => ?_⟩
  have s_a2 := same_new n_a2 (.lst [])
  have u_a2 : upd H6 a2 (.lst []) a2 = some (.lst []) := upd_same
  generalize upd H6 a2 (.lst []) = H7 at s_a2 u_a2 ⊢
  refine ⟨(by show 1 ≤ sizeLine; decide), fun a3 n_a3 => ?_⟩
  have s_a3 := same_new n_a3 (.lst [V.ref a2])
  have u_a3 : upd H7 a3 (.lst [V.ref a2]) a3 = some (.lst [V.ref a2]) := upd_same
  generalize upd H7 a3 (.lst [V.ref a2]) = H8 at s_a3 u_a3 ⊢
  refine ⟨_, rfl, .inl ⟨_, tr_li u_a3 (TreesAt.one (nil_tree (s_a3 _ _ u_a2))), o1, fun H9 D3 rs3 w3 => ?_⟩⟩
  have q3 := pln_ways w3 o1
  refine ⟨(by show 0 ≤ sizeLine; decide), fun a4 n_a4 => ?_⟩
  have s_a4 := same_new n_a4 (.lst [])
  have u_a4 : upd H9 a4 (.lst []) a4 = some (.lst []) := upd_same
  generalize upd H9 a4 (.lst []) = H10 at s_a4 u_a4 ⊢
  refine ⟨(by show 1 ≤ sizeLine; decide), fun a5 n_a5 => ?_⟩
  have s_a5 := same_new n_a5 (.lst [V.ref a4])
  have u_a5 : upd H10 a5 (.lst [V.ref a4]) a5 = some (.lst [V.ref a4]) := upd_same
  generalize upd H10 a5 (.lst [V.ref a4]) = H11 at s_a5 u_a5 ⊢
  refine ⟨(by show 0 ≤ sizeLine; decide), fun a6 n_a6 => ?_⟩
  have s_a6 := same_new n_a6 (.lst [])
  have u_a6 : upd H11 a6 (.lst []) a6 = some (.lst []) := upd_same
  generalize upd H11 a6 (.lst []) = H12 at s_a6 u_a6 ⊢
  refine ⟨(by show 2 ≤ sizeLine; decide), fun a7 n_a7 => ?_⟩
  have s_a7 := same_new n_a7 (.lst [V.ref a5, .ref a6])
  have u_a7 : upd H12 a7 (.lst [V.ref a5, .ref a6]) a7 = some (.lst [V.ref a5, .ref a6]) := upd_same
  generalize upd H12 a7 (.lst [V.ref a5, .ref a6]) = H13 at s_a7 u_a7 ⊢
  refine ⟨_, rfl, .inl ⟨_, tr_li u_a7 (treesAt_c (tr_li (s_a7 _ _ (s_a6 _ _ u_a5)) (TreesAt.one (nil_tree (s_a7 _ _ (s_a6 _ _ (s_a5 _ _ u_a4)))))) (TreesAt.one (nil_tree (s_a7 _ _ u_a6)))), o2, fun H14 D4 rs4 w4 => ?_⟩⟩
  have q4 := pln_ways w4 o2
  have z9 : Same H9 H14 := s_a4.trans (s_a5.trans (s_a6.trans (s_a7.trans w4.1)))
  have z6 : Same H6 H14 := (s_a2.trans (s_a3.trans w3.1)).trans z9
  have z4 : Same H4 H14 := (s_a1.trans w2.1).trans z6
  replace tW := TreeAt.same (w1.1.trans z4) _ tW
  replace q1 := q1.same z4
  replace q2 := q2.same z6
  replace q3 := q3.same z9
  clear u_a1 u_a2 u_a3 u_a4 u_a5 u_a6 u_a7
  refine ⟨_, rfl, ?_⟩
  refine ⟨(by show 0 ≤ sizeLine; decide), fun a8 n_a8 => ?_⟩
  have s_a8 := same_new n_a8 (.lst [])
  have u_a8 : upd H14 a8 (.lst []) a8 = some (.lst []) := upd_same
  generalize upd H14 a8 (.lst []) = H15 at s_a8 u_a8 ⊢
  refine ⟨v, .ref a8, rfl, .inl ⟨W, _, TreeAt.same s_a8 _ tW, ow, nil_tree u_a8, oz, fun H16 s16 => ?_⟩⟩
  generalize sgn (cmp (told W) (told (Tt.mk []))) = c1
  refine ⟨(by show 0 ≤ sizeLine; decide), fun a9 n_a9 => ?_⟩
  have s_a9 := same_new n_a9 (.lst [])
  have u_a9 : upd H16 a9 (.lst []) a9 = some (.lst []) := upd_same
  generalize upd H16 a9 (.lst []) = H17 at s_a9 u_a9 ⊢
  refine ⟨(by show 0 ≤ sizeLine; decide), fun a10 n_a10 => ?_⟩
  have s_a10 := same_new n_a10 (.lst [])
  have u_a10 : upd H17 a10 (.lst []) a10 = some (.lst []) := upd_same
  generalize upd H17 a10 (.lst []) = H18 at s_a10 u_a10 ⊢
  refine ⟨(by show 1 ≤ sizeLine; decide), fun a11 n_a11 => ?_⟩
  have s_a11 := same_new n_a11 (.lst [V.ref a10])
  have u_a11 : upd H18 a11 (.lst [V.ref a10]) a11 = some (.lst [V.ref a10]) := upd_same
  generalize upd H18 a11 (.lst [V.ref a10]) = H19 at s_a11 u_a11 ⊢
  refine ⟨_, _, rfl, .inl ⟨_, _, nil_tree (s_a11 _ _ (s_a10 _ _ u_a9)), oz, tr_li u_a11 (TreesAt.one (nil_tree (s_a11 _ _ u_a10))), o1, fun H20 s20 => ?_⟩⟩
  generalize sgn (cmp (told (Tt.mk [])) (told (Tt.mk [Tt.mk []]))) = c2
  refine ⟨(by show 6 ≤ sizeLine; decide), fun L1 n_L1 => ?_⟩
  have s_L1 := same_new n_L1 (.lst [V.ref D1, .ref D2, .ref D3, .ref D4, .int c1, .int c2])
  have u_L1 : upd H20 L1 (.lst [V.ref D1, .ref D2, .ref D3, .ref D4, .int c1, .int c2]) L1 = some (.lst [V.ref D1, .ref D2, .ref D3, .ref D4, .int c1, .int c2]) := upd_same
  generalize upd H20 L1 (.lst [V.ref D1, .ref D2, .ref D3, .ref D4, .int c1, .int c2]) = H21 at s_L1 u_L1 ⊢
  have z14 : Same H14 H21 := s_a8.trans (s16.trans (s_a9.trans (s_a10.trans (s_a11.trans (s20.trans s_L1)))))
  replace tW := TreeAt.same z14 _ tW
  -- compare(tree, tree)
  refine ⟨_, rfl, _, rfl, _, rfl, v, v, rfl, .inl ⟨W, W, tW, ow, tW, ow, fun H22 s22 => ?_⟩⟩
  generalize sgn (cmp (told W) (told W)) = c3
  refine ⟨(by show 1 ≤ sizeLine; decide), fun L2 n_L2 => ?_⟩
  have s_L2 := same_new n_L2 (.lst [V.int c3])
  have u_L2 : upd H22 L2 (.lst [V.int c3]) L2 = some (.lst [V.int c3]) := upd_same
  generalize upd H22 L2 (.lst [V.int c3]) = H23 at s_L2 u_L2 ⊢
  refine ⟨L1, L2, _, _, rfl, rfl, s_L2 _ _ (s22 _ _ u_L1), u_L2, (by show 7 ≤ sizeLine; decide), fun L3 nL3 => ?_⟩
  have s_L3 := same_new nL3 (.lst ([V.ref D1, .ref D2, .ref D3, .ref D4, .int c1, .int c2] ++ [V.int c3]))
  have u_L3 : upd H23 L3 (.lst ([V.ref D1, .ref D2, .ref D3, .ref D4, .int c1, .int c2] ++ [V.int c3])) L3 = some (.lst ([V.ref D1, .ref D2, .ref D3, .ref D4, .int c1, .int c2] ++ [V.int c3])) := upd_same
  generalize upd H23 L3 (.lst ([V.ref D1, .ref D2, .ref D3, .ref D4, .int c1, .int c2] ++ [V.int c3])) = H24 at s_L3 u_L3 ⊢
  have z21 : Same H21 H24 := s22.trans (s_L2.trans s_L3)
  replace tW := TreeAt.same z21 _ tW
  -- four more
  refine ⟨_, rfl, ?_⟩
  refine ⟨(by show 0 ≤ sizeLine; decide), fun b1 n_b1 => ?_⟩
  have s_b1 := same_new n_b1 (.lst [])
  have u_b1 : upd H24 b1 (.lst []) b1 = some (.lst []) := upd_same
  generalize upd H24 b1 (.lst []) = H25 at s_b1 u_b1 ⊢
  refine ⟨(by show 1 ≤ sizeLine; decide), fun b2 n_b2 => ?_⟩
  have s_b2 := same_new n_b2 (.lst [V.ref b1])
  have u_b2 : upd H25 b2 (.lst [V.ref b1]) b2 = some (.lst [V.ref b1]) := upd_same
  generalize upd H25 b2 (.lst [V.ref b1]) = H26 at s_b2 u_b2 ⊢
  refine ⟨(by show 0 ≤ sizeLine; decide), fun b3 n_b3 => ?_⟩
  have s_b3 := same_new n_b3 (.lst [])
  have u_b3 : upd H26 b3 (.lst []) b3 = some (.lst []) := upd_same
  generalize upd H26 b3 (.lst []) = H27 at s_b3 u_b3 ⊢
  refine ⟨_, _, rfl, .inl ⟨_, _, tr_li (s_b3 _ _ u_b2) (TreesAt.one (nil_tree (s_b3 _ _ (s_b2 _ _ u_b1)))), o1, nil_tree u_b3, oz, fun H28 s28 => ?_⟩⟩
  generalize sgn (cmp (told (Tt.mk [Tt.mk []])) (told (Tt.mk []))) = c4
  refine ⟨(by show 0 ≤ sizeLine; decide), fun b4 n_b4 => ?_⟩
  have s_b4 := same_new n_b4 (.lst [])
  have u_b4 : upd H28 b4 (.lst []) b4 = some (.lst []) := upd_same
  generalize upd H28 b4 (.lst []) = H29 at s_b4 u_b4 ⊢
  refine ⟨(by show 1 ≤ sizeLine; decide), fun b5 n_b5 => ?_⟩
  have s_b5 := same_new n_b5 (.lst [V.ref b4])
  have u_b5 : upd H29 b5 (.lst [V.ref b4]) b5 = some (.lst [V.ref b4]) := upd_same
  generalize upd H29 b5 (.lst [V.ref b4]) = H30 at s_b5 u_b5 ⊢
  refine ⟨(by show 1 ≤ sizeLine; decide), fun b6 n_b6 => ?_⟩
  have s_b6 := same_new n_b6 (.lst [V.ref b5])
  have u_b6 : upd H30 b6 (.lst [V.ref b5]) b6 = some (.lst [V.ref b5]) := upd_same
  generalize upd H30 b6 (.lst [V.ref b5]) = H31 at s_b6 u_b6 ⊢
  refine ⟨(by show 0 ≤ sizeLine; decide), fun b7 n_b7 => ?_⟩
  have s_b7 := same_new n_b7 (.lst [])
  have u_b7 : upd H31 b7 (.lst []) b7 = some (.lst []) := upd_same
  generalize upd H31 b7 (.lst []) = H32 at s_b7 u_b7 ⊢
  refine ⟨(by show 0 ≤ sizeLine; decide), fun b8 n_b8 => ?_⟩
  have s_b8 := same_new n_b8 (.lst [])
  have u_b8 : upd H32 b8 (.lst []) b8 = some (.lst []) := upd_same
  generalize upd H32 b8 (.lst []) = H33 at s_b8 u_b8 ⊢
  refine ⟨(by show 2 ≤ sizeLine; decide), fun b9 n_b9 => ?_⟩
  have s_b9 := same_new n_b9 (.lst [V.ref b7, .ref b8])
  have u_b9 : upd H33 b9 (.lst [V.ref b7, .ref b8]) b9 = some (.lst [V.ref b7, .ref b8]) := upd_same
  generalize upd H33 b9 (.lst [V.ref b7, .ref b8]) = H34 at s_b9 u_b9 ⊢
  have y31 : Same H31 H34 := s_b7.trans (s_b8.trans s_b9)
  refine ⟨_, _, rfl, .inl ⟨_, _, tr_li (y31 _ _ u_b6) (TreesAt.one (tr_li (y31 _ _ (s_b6 _ _ u_b5)) (TreesAt.one (nil_tree (y31 _ _ (s_b6 _ _ (s_b5 _ _ u_b4))))))), o3, tr_li u_b9 (treesAt_c (nil_tree (s_b9 _ _ (s_b8 _ _ u_b7))) (TreesAt.one (nil_tree (s_b9 _ _ u_b8)))), o4, fun H35 s35 => ?_⟩⟩
  generalize sgn (cmp (told (Tt.mk [Tt.mk [Tt.mk []]])) (told (Tt.mk [Tt.mk [], Tt.mk []]))) = c5
  have z24 : Same H24 H35 := s_b1.trans (s_b2.trans (s_b3.trans (s28.trans (s_b4.trans (s_b5.trans (s_b6.trans (y31.trans s35)))))))
  replace tW := TreeAt.same z24 _ tW
  refine ⟨_, rfl, _, rfl, _, _, rfl, .inl ⟨W, tW, ow, .inl ⟨b' + 2, rfl, by omega, bb, .inr (.inl ⟨k3, k4, fun H36 s36 => ?_⟩)⟩⟩⟩
  generalize ((val (b' + 2) W : Nat) : Int) = c6
  refine ⟨(by show 0 ≤ sizeLine; decide), fun b10 n_b10 => ?_⟩
  have s_b10 := same_new n_b10 (.lst [])
  have u_b10 : upd H36 b10 (.lst []) b10 = some (.lst []) := upd_same
  generalize upd H36 b10 (.lst []) = H37 at s_b10 u_b10 ⊢
  refine ⟨_, _, rfl, .inl ⟨_, nil_tree u_b10, oz, .inl ⟨2, rfl, by decide, Bits.mono (a := 2) (by show (2 : Nat) < 4; decide) (by decide), .inr (.inl ⟨by decide +kernel, by decide +kernel, fun H38 s38 => ?_⟩)⟩⟩⟩
  generalize ((val 2 (Tt.mk []) : Nat) : Int) = c7
  refine ⟨(by show 4 ≤ sizeLine; decide), fun L4 n_L4 => ?_⟩
  have s_L4 := same_new n_L4 (.lst [V.int c4, .int c5, .int c6, .int c7])
  have u_L4 : upd H38 L4 (.lst [V.int c4, .int c5, .int c6, .int c7]) L4 = some (.lst [V.int c4, .int c5, .int c6, .int c7]) := upd_same
  generalize upd H38 L4 (.lst [V.int c4, .int c5, .int c6, .int c7]) = H39 at s_L4 u_L4 ⊢
  have z35 : Same H35 H39 := s36.trans (s_b10.trans (s38.trans s_L4))
  refine ⟨L3, L4, _, _, rfl, rfl, (z24.trans z35) _ _ u_L3, u_L4, (by show 11 ≤ sizeLine; decide), fun L5 nL5 => ?_⟩
  have s_L5 := same_new nL5 (.lst (([V.ref D1, .ref D2, .ref D3, .ref D4, .int c1, .int c2] ++ [V.int c3]) ++ [V.int c4, .int c5, .int c6, .int c7]))
  have u_L5 : upd H39 L5 (.lst (([V.ref D1, .ref D2, .ref D3, .ref D4, .int c1, .int c2] ++ [V.int c3]) ++ [V.int c4, .int c5, .int c6, .int c7])) L5 = some (.lst (([V.ref D1, .ref D2, .ref D3, .ref D4, .int c1, .int c2] ++ [V.int c3]) ++ [V.int c4, .int c5, .int c6, .int c7])) := upd_same
  generalize upd H39 L5 (.lst (([V.ref D1, .ref D2, .ref D3, .ref D4, .int c1, .int c2] ++ [V.int c3]) ++ [V.int c4, .int c5, .int c6, .int c7])) = H40 at s_L5 u_L5 ⊢
  refine ⟨_, rfl, ?_⟩
  refine ⟨(by show 0 ≤ sizeLine; decide), fun d1 n_d1 => ?_⟩
  have s_d1 := same_new n_d1 (.lst [])
  have u_d1 : upd H40 d1 (.lst []) d1 = some (.lst []) := upd_same
  generalize upd H40 d1 (.lst []) = H41 at s_d1 u_d1 ⊢
  refine ⟨(by show 1 ≤ sizeLine; decide), fun d2 n_d2 => ?_⟩
  have s_d2 := same_new n_d2 (.lst [V.ref d1])
  have u_d2 : upd H41 d2 (.lst [V.ref d1]) d2 = some (.lst [V.ref d1]) := upd_same
  generalize upd H41 d2 (.lst [V.ref d1]) = H42 at s_d2 u_d2 ⊢
  refine ⟨_, _, rfl, .inl ⟨_, tr_li u_d2 (TreesAt.one (nil_tree (s_d2 _ _ u_d1))), o1, .inl ⟨2, rfl, by decide, Bits.mono (a := 2) (by show (2 : Nat) < 4; decide) (by decide), .inr (.inl ⟨by decide +kernel, by decide +kernel, fun H43 s43 => ?_⟩)⟩⟩⟩
  generalize ((val 2 (Tt.mk [Tt.mk []]) : Nat) : Int) = c8
  refine ⟨(by show 1 ≤ sizeLine; decide), fun L6 n_L6 => ?_⟩
  have s_L6 := same_new n_L6 (.lst [V.int c8])
  have u_L6 : upd H43 L6 (.lst [V.int c8]) L6 = some (.lst [V.int c8]) := upd_same
  generalize upd H43 L6 (.lst [V.int c8]) = H44 at s_L6 u_L6 ⊢
  have z40 : Same H40 H44 := s_d1.trans (s_d2.trans (s43.trans s_L6))
  refine ⟨L5, L6, _, _, rfl, rfl, z40 _ _ u_L5, u_L6, (by show 12 ≤ sizeLine; decide), fun L7 nL7 => ?_⟩
  have s_L7 := same_new nL7 (.lst ((([V.ref D1, .ref D2, .ref D3, .ref D4, .int c1, .int c2] ++ [V.int c3]) ++ [V.int c4, .int c5, .int c6, .int c7]) ++ [V.int c8]))
  have u_L7 : upd H44 L7 (.lst ((([V.ref D1, .ref D2, .ref D3, .ref D4, .int c1, .int c2] ++ [V.int c3]) ++ [V.int c4, .int c5, .int c6, .int c7]) ++ [V.int c8])) L7 = some (.lst ((([V.ref D1, .ref D2, .ref D3, .ref D4, .int c1, .int c2] ++ [V.int c3]) ++ [V.int c4, .int c5, .int c6, .int c7]) ++ [V.int c8])) := upd_same
  have zall : Same H14 (upd H44 L7 (.lst ((([V.ref D1, .ref D2, .ref D3, .ref D4, .int c1, .int c2] ++ [V.int c3]) ++ [V.int c4, .int c5, .int c6, .int c7]) ++ [V.int c8]))) := z14.trans (z21.trans (z24.trans (z35.trans (s_L5.trans (z40.trans s_L7)))))
  refine ⟨_, rfl, .ref L7, rfl, .lst u_L7 (by show 12 ≤ 1000; decide) fun x hx => ?_, fun H45 _ => q _⟩
  simp only [List.cons_append, List.nil_append, List.mem_cons, List.mem_nil_iff, or_false] at hx
  rcases hx with e | e | e | e | e | e | e | e | e | e | e | e <;> rw [e]
  · exact q1.same zall
  · exact q2.same zall
  · exact q3.same zall
  · exact q4.same zall
  all_goals exact .int 2 _
end
theorem all_mk {l : PySem.W.OpenLaw} {w : World} {K : PySem.W.Frag} {h : Heap} {mg : Str → Option Value} {fa : Addr} (X : K.In h) (G : h.Ns mainGlobals mg) (hfa : mg "law" = some (.ref fa))
    {a_is_tree : Addr} {od0 an0 : Option Addr} {sl0 : Array (Option Value)} {oc0 kV0 dc0 pm0 cd0 ct0 : Value}
    {a_asked_tree : Addr} {od1 an1 : Option Addr} {sl1 : Array (Option Value)} {oc1 kV1 dc1 pm1 cd1 ct1 : Value}
    {a_compared : Addr} {od2 an2 : Option Addr} {sl2 : Array (Option Value)} {oc2 kV2 dc2 pm2 cd2 ct2 : Value}
    {a_merged : Addr} {od3 an3 : Option Addr} {sl3 : Array (Option Value)} {oc3 kV3 dc3 pm3 cd3 ct3 : Value}
    {a_copied : Addr} {od4 an4 : Option Addr} {sl4 : Array (Option Value)} {oc4 kV4 dc4 pm4 cd4 ct4 : Value}
    {a_told_of : Addr} {od5 an5 : Option Addr} {sl5 : Array (Option Value)} {oc5 kV5 dc5 pm5 cd5 ct5 : Value}
    {a_told : Addr} {od6 an6 : Option Addr} {sl6 : Array (Option Value)} {oc6 kV6 dc6 pm6 cd6 ct6 : Value}
    {a_compare : Addr} {od7 an7 : Option Addr} {sl7 : Array (Option Value)} {oc7 kV7 dc7 pm7 cd7 ct7 : Value}
    {a_knots : Addr} {od8 an8 : Option Addr} {sl8 : Array (Option Value)} {oc8 kV8 dc8 pm8 cd8 ct8 : Value}
    {a_asked_great : Addr} {od9 an9 : Option Addr} {sl9 : Array (Option Value)} {oc9 kV9 dc9 pm9 cd9 ct9 : Value}
    {a_together : Addr} {od10 an10 : Option Addr} {sl10 : Array (Option Value)} {oc10 kV10 dc10 pm10 cd10 ct10 : Value}
    {a_behind : Addr} {od11 an11 : Option Addr} {sl11 : Array (Option Value)} {oc11 kV11 dc11 pm11 cd11 ct11 : Value}
    {a_is_number : Addr} {od12 an12 : Option Addr} {sl12 : Array (Option Value)} {oc12 kV12 dc12 pm12 cd12 ct12 : Value}
    {a_heads_of : Addr} {od13 an13 : Option Addr} {sl13 : Array (Option Value)} {oc13 kV13 dc13 pm13 cd13 ct13 : Value}
    {a_heads : Addr} {od14 an14 : Option Addr} {sl14 : Array (Option Value)} {oc14 kV14 dc14 pm14 cd14 ct14 : Value}
    {a_knot_at : Addr} {od15 an15 : Option Addr} {sl15 : Array (Option Value)} {oc15 kV15 dc15 pm15 cd15 ct15 : Value}
    {a_cut_of : Addr} {od16 an16 : Option Addr} {sl16 : Array (Option Value)} {oc16 kV16 dc16 pm16 cd16 ct16 : Value}
    {a_cut : Addr} {od17 an17 : Option Addr} {sl17 : Array (Option Value)} {oc17 kV17 dc17 pm17 cd17 ct17 : Value}
    {a_asked_base : Addr} {od18 an18 : Option Addr} {sl18 : Array (Option Value)} {oc18 kV18 dc18 pm18 cd18 ct18 : Value}
    {a_written_of : Addr} {od19 an19 : Option Addr} {sl19 : Array (Option Value)} {oc19 kV19 dc19 pm19 cd19 ct19 : Value}
    {a_written : Addr} {od20 an20 : Option Addr} {sl20 : Array (Option Value)} {oc20 kV20 dc20 pm20 cd20 ct20 : Value}
    {a_can_write : Addr} {od21 an21 : Option Addr} {sl21 : Array (Option Value)} {oc21 kV21 dc21 pm21 cd21 ct21 : Value}
    {a_value_of : Addr} {od22 an22 : Option Addr} {sl22 : Array (Option Value)} {oc22 kV22 dc22 pm22 cd22 ct22 : Value}
    {a_number_of : Addr} {od23 an23 : Option Addr} {sl23 : Array (Option Value)} {oc23 kV23 dc23 pm23 cd23 ct23 : Value}
    {a_stepped : Addr} {od24 an24 : Option Addr} {sl24 : Array (Option Value)} {oc24 kV24 dc24 pm24 cd24 ct24 : Value}
    {a_text_of : Addr} {od25 an25 : Option Addr} {sl25 : Array (Option Value)} {oc25 kV25 dc25 pm25 cd25 ct25 : Value}
    {a_text : Addr} {od26 an26 : Option Addr} {sl26 : Array (Option Value)} {oc26 kV26 dc26 pm26 cd26 ct26 : Value}
    {a_read : Addr} {od27 an27 : Option Addr} {sl27 : Array (Option Value)} {oc27 kV27 dc27 pm27 cd27 ct27 : Value}
    {a__law_number : Addr} {od28 an28 : Option Addr} {sl28 : Array (Option Value)} {oc28 kV28 dc28 pm28 cd28 ct28 : Value}
    {a__law_plain : Addr} {od29 an29 : Option Addr} {sl29 : Array (Option Value)} {oc29 kV29 dc29 pm29 cd29 ct29 : Value}
    {a__law_no_of : Addr} {od30 an30 : Option Addr} {sl30 : Array (Option Value)} {oc30 kV30 dc30 pm30 cd30 ct30 : Value}
    {a__law_promises_right : Addr} {od31 an31 : Option Addr} {sl31 : Array (Option Value)} {oc31 kV31 dc31 pm31 cd31 ct31 : Value}
    {a_law : Addr} {od32 an32 : Option Addr} {sl32 : Array (Option Value)} {oc32 kV32 dc32 pm32 cd32 ct32 : Value}
    {t_MOST : Tok}
    {t_DEEPEST : Tok}
    {t_GREATEST : Tok}
    {A_HeadError : Addr}
    {A_BadTree : Addr}
    {A_BadWay : Addr}
    {A_BadTimes : Addr}
    {A_BadNumber : Addr}
    {A_BadBase : Addr}
    {A_BadText : Addr}
    {A_TooGreat : Addr}
    {c__law_promises_right P__law_promises_right : Addr} {e__law_promises_right : Value} {dd__law_promises_right : Option Addr} {vs__law_promises_right : Array Value} {sl__law_promises_right : Array (Option Value)}
    (n0 : PySem.W.nsIn K mainGlobals "is_tree" = some (some (.ref a_is_tree))) (l0 : K.lookup a_is_tree = some ⟨oc0, od0, .func (PySem.W.fnOf "is_tree" "is_tree" (defArgs s_is_tree) (defBody s_is_tree) (defScope s_is_tree) .none kV0 dc0 pm0 an0 cd0 ct0), sl0⟩) (c0 : PySem.W.codeIn K cd0 "is_tree" = true) (k0 : PySem.W.keepIn K (.ref a_is_tree) = true)
    (n1 : PySem.W.nsIn K mainGlobals "asked_tree" = some (some (.ref a_asked_tree))) (l1 : K.lookup a_asked_tree = some ⟨oc1, od1, .func (PySem.W.fnOf "asked_tree" "asked_tree" (defArgs s_asked_tree) (defBody s_asked_tree) (defScope s_asked_tree) .none kV1 dc1 pm1 an1 cd1 ct1), sl1⟩) (c1 : PySem.W.codeIn K cd1 "asked_tree" = true) (k1 : PySem.W.keepIn K (.ref a_asked_tree) = true)
    (n2 : PySem.W.nsIn K mainGlobals "compared" = some (some (.ref a_compared))) (l2 : K.lookup a_compared = some ⟨oc2, od2, .func (PySem.W.fnOf "compared" "compared" (defArgs s_compared) (defBody s_compared) (defScope s_compared) .none kV2 dc2 pm2 an2 cd2 ct2), sl2⟩) (c2 : PySem.W.codeIn K cd2 "compared" = true) (k2 : PySem.W.keepIn K (.ref a_compared) = true)
    (n3 : PySem.W.nsIn K mainGlobals "merged" = some (some (.ref a_merged))) (l3 : K.lookup a_merged = some ⟨oc3, od3, .func (PySem.W.fnOf "merged" "merged" (defArgs s_merged) (defBody s_merged) (defScope s_merged) .none kV3 dc3 pm3 an3 cd3 ct3), sl3⟩) (c3 : PySem.W.codeIn K cd3 "merged" = true) (k3 : PySem.W.keepIn K (.ref a_merged) = true)
    (n4 : PySem.W.nsIn K mainGlobals "copied" = some (some (.ref a_copied))) (l4 : K.lookup a_copied = some ⟨oc4, od4, .func (PySem.W.fnOf "copied" "copied" (defArgs s_copied) (defBody s_copied) (defScope s_copied) .none kV4 dc4 pm4 an4 cd4 ct4), sl4⟩) (c4 : PySem.W.codeIn K cd4 "copied" = true) (k4 : PySem.W.keepIn K (.ref a_copied) = true)
    (n5 : PySem.W.nsIn K mainGlobals "told_of" = some (some (.ref a_told_of))) (l5 : K.lookup a_told_of = some ⟨oc5, od5, .func (PySem.W.fnOf "told_of" "told_of" (defArgs s_told_of) (defBody s_told_of) (defScope s_told_of) .none kV5 dc5 pm5 an5 cd5 ct5), sl5⟩) (c5 : PySem.W.codeIn K cd5 "told_of" = true) (k5 : PySem.W.keepIn K (.ref a_told_of) = true)
    (n6 : PySem.W.nsIn K mainGlobals "told" = some (some (.ref a_told))) (l6 : K.lookup a_told = some ⟨oc6, od6, .func (PySem.W.fnOf "told" "told" (defArgs s_told) (defBody s_told) (defScope s_told) .none kV6 dc6 pm6 an6 cd6 ct6), sl6⟩) (c6 : PySem.W.codeIn K cd6 "told" = true) (k6 : PySem.W.keepIn K (.ref a_told) = true)
    (n7 : PySem.W.nsIn K mainGlobals "compare" = some (some (.ref a_compare))) (l7 : K.lookup a_compare = some ⟨oc7, od7, .func (PySem.W.fnOf "compare" "compare" (defArgs s_compare) (defBody s_compare) (defScope s_compare) .none kV7 dc7 pm7 an7 cd7 ct7), sl7⟩) (c7 : PySem.W.codeIn K cd7 "compare" = true) (k7 : PySem.W.keepIn K (.ref a_compare) = true)
    (n8 : PySem.W.nsIn K mainGlobals "knots" = some (some (.ref a_knots))) (l8 : K.lookup a_knots = some ⟨oc8, od8, .func (PySem.W.fnOf "knots" "knots" (defArgs s_knots) (defBody s_knots) (defScope s_knots) .none kV8 dc8 pm8 an8 cd8 ct8), sl8⟩) (c8 : PySem.W.codeIn K cd8 "knots" = true) (k8 : PySem.W.keepIn K (.ref a_knots) = true)
    (n9 : PySem.W.nsIn K mainGlobals "asked_great" = some (some (.ref a_asked_great))) (l9 : K.lookup a_asked_great = some ⟨oc9, od9, .func (PySem.W.fnOf "asked_great" "asked_great" (defArgs s_asked_great) (defBody s_asked_great) (defScope s_asked_great) .none kV9 dc9 pm9 an9 cd9 ct9), sl9⟩) (c9 : PySem.W.codeIn K cd9 "asked_great" = true) (k9 : PySem.W.keepIn K (.ref a_asked_great) = true)
    (n10 : PySem.W.nsIn K mainGlobals "together" = some (some (.ref a_together))) (l10 : K.lookup a_together = some ⟨oc10, od10, .func (PySem.W.fnOf "together" "together" (defArgs s_together) (defBody s_together) (defScope s_together) .none kV10 dc10 pm10 an10 cd10 ct10), sl10⟩) (c10 : PySem.W.codeIn K cd10 "together" = true) (k10 : PySem.W.keepIn K (.ref a_together) = true)
    (n11 : PySem.W.nsIn K mainGlobals "behind" = some (some (.ref a_behind))) (l11 : K.lookup a_behind = some ⟨oc11, od11, .func (PySem.W.fnOf "behind" "behind" (defArgs s_behind) (defBody s_behind) (defScope s_behind) .none kV11 dc11 pm11 an11 cd11 ct11), sl11⟩) (c11 : PySem.W.codeIn K cd11 "behind" = true) (k11 : PySem.W.keepIn K (.ref a_behind) = true)
    (n12 : PySem.W.nsIn K mainGlobals "is_number" = some (some (.ref a_is_number))) (l12 : K.lookup a_is_number = some ⟨oc12, od12, .func (PySem.W.fnOf "is_number" "is_number" (defArgs s_is_number) (defBody s_is_number) (defScope s_is_number) .none kV12 dc12 pm12 an12 cd12 ct12), sl12⟩) (c12 : PySem.W.codeIn K cd12 "is_number" = true) (k12 : PySem.W.keepIn K (.ref a_is_number) = true)
    (n13 : PySem.W.nsIn K mainGlobals "heads_of" = some (some (.ref a_heads_of))) (l13 : K.lookup a_heads_of = some ⟨oc13, od13, .func (PySem.W.fnOf "heads_of" "heads_of" (defArgs s_heads_of) (defBody s_heads_of) (defScope s_heads_of) .none kV13 dc13 pm13 an13 cd13 ct13), sl13⟩) (c13 : PySem.W.codeIn K cd13 "heads_of" = true) (k13 : PySem.W.keepIn K (.ref a_heads_of) = true)
    (n14 : PySem.W.nsIn K mainGlobals "heads" = some (some (.ref a_heads))) (l14 : K.lookup a_heads = some ⟨oc14, od14, .func (PySem.W.fnOf "heads" "heads" (defArgs s_heads) (defBody s_heads) (defScope s_heads) .none kV14 dc14 pm14 an14 cd14 ct14), sl14⟩) (c14 : PySem.W.codeIn K cd14 "heads" = true) (k14 : PySem.W.keepIn K (.ref a_heads) = true)
    (n15 : PySem.W.nsIn K mainGlobals "knot_at" = some (some (.ref a_knot_at))) (l15 : K.lookup a_knot_at = some ⟨oc15, od15, .func (PySem.W.fnOf "knot_at" "knot_at" (defArgs s_knot_at) (defBody s_knot_at) (defScope s_knot_at) .none kV15 dc15 pm15 an15 cd15 ct15), sl15⟩) (c15 : PySem.W.codeIn K cd15 "knot_at" = true) (k15 : PySem.W.keepIn K (.ref a_knot_at) = true)
    (n16 : PySem.W.nsIn K mainGlobals "cut_of" = some (some (.ref a_cut_of))) (l16 : K.lookup a_cut_of = some ⟨oc16, od16, .func (PySem.W.fnOf "cut_of" "cut_of" (defArgs s_cut_of) (defBody s_cut_of) (defScope s_cut_of) .none kV16 dc16 pm16 an16 cd16 ct16), sl16⟩) (c16 : PySem.W.codeIn K cd16 "cut_of" = true) (k16 : PySem.W.keepIn K (.ref a_cut_of) = true)
    (n17 : PySem.W.nsIn K mainGlobals "cut" = some (some (.ref a_cut))) (l17 : K.lookup a_cut = some ⟨oc17, od17, .func (PySem.W.fnOf "cut" "cut" (defArgs s_cut) (defBody s_cut) (defScope s_cut) .none kV17 dc17 pm17 an17 cd17 ct17), sl17⟩) (c17 : PySem.W.codeIn K cd17 "cut" = true) (k17 : PySem.W.keepIn K (.ref a_cut) = true)
    (n18 : PySem.W.nsIn K mainGlobals "asked_base" = some (some (.ref a_asked_base))) (l18 : K.lookup a_asked_base = some ⟨oc18, od18, .func (PySem.W.fnOf "asked_base" "asked_base" (defArgs s_asked_base) (defBody s_asked_base) (defScope s_asked_base) .none kV18 dc18 pm18 an18 cd18 ct18), sl18⟩) (c18 : PySem.W.codeIn K cd18 "asked_base" = true) (k18 : PySem.W.keepIn K (.ref a_asked_base) = true)
    (n19 : PySem.W.nsIn K mainGlobals "written_of" = some (some (.ref a_written_of))) (l19 : K.lookup a_written_of = some ⟨oc19, od19, .func (PySem.W.fnOf "written_of" "written_of" (defArgs s_written_of) (defBody s_written_of) (defScope s_written_of) .none kV19 dc19 pm19 an19 cd19 ct19), sl19⟩) (c19 : PySem.W.codeIn K cd19 "written_of" = true) (k19 : PySem.W.keepIn K (.ref a_written_of) = true)
    (n20 : PySem.W.nsIn K mainGlobals "written" = some (some (.ref a_written))) (l20 : K.lookup a_written = some ⟨oc20, od20, .func (PySem.W.fnOf "written" "written" (defArgs s_written) (defBody s_written) (defScope s_written) .none kV20 dc20 pm20 an20 cd20 ct20), sl20⟩) (c20 : PySem.W.codeIn K cd20 "written" = true) (k20 : PySem.W.keepIn K (.ref a_written) = true)
    (n21 : PySem.W.nsIn K mainGlobals "can_write" = some (some (.ref a_can_write))) (l21 : K.lookup a_can_write = some ⟨oc21, od21, .func (PySem.W.fnOf "can_write" "can_write" (defArgs s_can_write) (defBody s_can_write) (defScope s_can_write) .none kV21 dc21 pm21 an21 cd21 ct21), sl21⟩) (c21 : PySem.W.codeIn K cd21 "can_write" = true) (k21 : PySem.W.keepIn K (.ref a_can_write) = true)
    (n22 : PySem.W.nsIn K mainGlobals "value_of" = some (some (.ref a_value_of))) (l22 : K.lookup a_value_of = some ⟨oc22, od22, .func (PySem.W.fnOf "value_of" "value_of" (defArgs s_value_of) (defBody s_value_of) (defScope s_value_of) .none kV22 dc22 pm22 an22 cd22 ct22), sl22⟩) (c22 : PySem.W.codeIn K cd22 "value_of" = true) (k22 : PySem.W.keepIn K (.ref a_value_of) = true)
    (n23 : PySem.W.nsIn K mainGlobals "number_of" = some (some (.ref a_number_of))) (l23 : K.lookup a_number_of = some ⟨oc23, od23, .func (PySem.W.fnOf "number_of" "number_of" (defArgs s_number_of) (defBody s_number_of) (defScope s_number_of) .none kV23 dc23 pm23 an23 cd23 ct23), sl23⟩) (c23 : PySem.W.codeIn K cd23 "number_of" = true) (k23 : PySem.W.keepIn K (.ref a_number_of) = true)
    (n24 : PySem.W.nsIn K mainGlobals "stepped" = some (some (.ref a_stepped))) (l24 : K.lookup a_stepped = some ⟨oc24, od24, .func (PySem.W.fnOf "stepped" "stepped" (defArgs s_stepped) (defBody s_stepped) (defScope s_stepped) .none kV24 dc24 pm24 an24 cd24 ct24), sl24⟩) (c24 : PySem.W.codeIn K cd24 "stepped" = true) (k24 : PySem.W.keepIn K (.ref a_stepped) = true)
    (n25 : PySem.W.nsIn K mainGlobals "text_of" = some (some (.ref a_text_of))) (l25 : K.lookup a_text_of = some ⟨oc25, od25, .func (PySem.W.fnOf "text_of" "text_of" (defArgs s_text_of) (defBody s_text_of) (defScope s_text_of) .none kV25 dc25 pm25 an25 cd25 ct25), sl25⟩) (c25 : PySem.W.codeIn K cd25 "text_of" = true) (k25 : PySem.W.keepIn K (.ref a_text_of) = true)
    (n26 : PySem.W.nsIn K mainGlobals "text" = some (some (.ref a_text))) (l26 : K.lookup a_text = some ⟨oc26, od26, .func (PySem.W.fnOf "text" "text" (defArgs s_text) (defBody s_text) (defScope s_text) .none kV26 dc26 pm26 an26 cd26 ct26), sl26⟩) (c26 : PySem.W.codeIn K cd26 "text" = true) (k26 : PySem.W.keepIn K (.ref a_text) = true)
    (n27 : PySem.W.nsIn K mainGlobals "read" = some (some (.ref a_read))) (l27 : K.lookup a_read = some ⟨oc27, od27, .func (PySem.W.fnOf "read" "read" (defArgs s_read) (defBody s_read) (defScope s_read) .none kV27 dc27 pm27 an27 cd27 ct27), sl27⟩) (c27 : PySem.W.codeIn K cd27 "read" = true) (k27 : PySem.W.keepIn K (.ref a_read) = true)
    (n28 : PySem.W.nsIn K mainGlobals "_law_number" = some (some (.ref a__law_number))) (l28 : K.lookup a__law_number = some ⟨oc28, od28, .func (PySem.W.fnOf "_law_number" "_law_number" (defArgs s__law_number) (defBody s__law_number) (defScope s__law_number) .none kV28 dc28 pm28 an28 cd28 ct28), sl28⟩) (c28 : PySem.W.codeIn K cd28 "_law_number" = true) (k28 : PySem.W.keepIn K (.ref a__law_number) = true)
    (n29 : PySem.W.nsIn K mainGlobals "_law_plain" = some (some (.ref a__law_plain))) (l29 : K.lookup a__law_plain = some ⟨oc29, od29, .func (PySem.W.fnOf "_law_plain" "_law_plain" (defArgs s__law_plain) (defBody s__law_plain) (defScope s__law_plain) .none kV29 dc29 pm29 an29 cd29 ct29), sl29⟩) (c29 : PySem.W.codeIn K cd29 "_law_plain" = true) (k29 : PySem.W.keepIn K (.ref a__law_plain) = true)
    (n30 : PySem.W.nsIn K mainGlobals "_law_no_of" = some (some (.ref a__law_no_of))) (l30 : K.lookup a__law_no_of = some ⟨oc30, od30, .func (PySem.W.fnOf "_law_no_of" "_law_no_of" (defArgs s__law_no_of) (defBody s__law_no_of) (defScope s__law_no_of) .none kV30 dc30 pm30 an30 cd30 ct30), sl30⟩) (c30 : PySem.W.codeIn K cd30 "_law_no_of" = true) (k30 : PySem.W.keepIn K (.ref a__law_no_of) = true)
    (n31 : PySem.W.nsIn K mainGlobals "_law_promises_right" = some (some (.ref a__law_promises_right))) (l31 : K.lookup a__law_promises_right = some ⟨oc31, od31, .func (PySem.W.fnOf "_law_promises_right" "_law_promises_right" (defArgs s__law_promises_right) (defBody s__law_promises_right) (defScope s__law_promises_right) .none kV31 dc31 pm31 an31 cd31 ct31), sl31⟩) (c31 : PySem.W.codeIn K cd31 "_law_promises_right" = true) (k31 : PySem.W.keepIn K (.ref a__law_promises_right) = true)
    (n32 : PySem.W.nsIn K mainGlobals "law" = some (some (.ref a_law))) (l32 : K.lookup a_law = some ⟨oc32, od32, .func (PySem.W.fnOf "law" "law" (defArgs s_law) (defBody s_law) (defScope s_law) .none kV32 dc32 pm32 an32 cd32 ct32), sl32⟩) (c32 : PySem.W.codeIn K cd32 "law" = true) (k32 : PySem.W.keepIn K (.ref a_law) = true)
    (z_len : PySem.W.nsIn K mainGlobals "len" = some none)
    (z_list : PySem.W.nsIn K mainGlobals "list" = some none)
    (z_range : PySem.W.nsIn K mainGlobals "range" = some none)
    (z_zip : PySem.W.nsIn K mainGlobals "zip" = some none)
    (z_enumerate : PySem.W.nsIn K mainGlobals "enumerate" = some none)
    (z_min : PySem.W.nsIn K mainGlobals "min" = some none)
    (z_max : PySem.W.nsIn K mainGlobals "max" = some none)
    (z_abs : PySem.W.nsIn K mainGlobals "abs" = some none)
    (z_sum : PySem.W.nsIn K mainGlobals "sum" = some none)
    (z_all : PySem.W.nsIn K mainGlobals "all" = some none)
    (z_isinstance : PySem.W.nsIn K mainGlobals "isinstance" = some none)
    (z_int : PySem.W.nsIn K mainGlobals "int" = some none)
    (z_bool : PySem.W.nsIn K mainGlobals "bool" = some none)
    (z_str : PySem.W.nsIn K mainGlobals "str" = some none)
    (z_tuple : PySem.W.nsIn K mainGlobals "tuple" = some none)
    (c_MOST : PySem.W.nsIn K mainGlobals "MOST" = some (some (.int 300 t_MOST)))
    (c_DEEPEST : PySem.W.nsIn K mainGlobals "DEEPEST" = some (some (.int 40 t_DEEPEST)))
    (c_GREATEST : PySem.W.nsIn K mainGlobals "GREATEST" = some (some (.int 2582249878086908589655919172003011874329705792829223512830659356540647622016841194629645353280137831435903171972747493376 t_GREATEST)))
    (g_HeadError : PySem.W.nsIn K mainGlobals "HeadError" = some (some (.ref A_HeadError)))
    (kk_HeadError : PySem.W.keepIn K (.ref A_HeadError) = true)
    (x_HeadError : PySem.W.excIn K A_HeadError [.type "ValueError", .type "Exception", .type "BaseException", .type "object"] "ValueError.__new__" = true)
    (sb_HeadError : PySem.W.subIn K (.ref A_HeadError) (.type "BaseException") = some true)
    (tt_HeadError : PySem.W.typeIn K (.ref A_HeadError) = some (.type "type"))
    (g_BadTree : PySem.W.nsIn K mainGlobals "BadTree" = some (some (.ref A_BadTree)))
    (kk_BadTree : PySem.W.keepIn K (.ref A_BadTree) = true)
    (x_BadTree : PySem.W.excIn K A_BadTree [.type "ValueError", .type "Exception", .type "BaseException", .type "object"] "ValueError.__new__" = true)
    (sb_BadTree : PySem.W.subIn K (.ref A_BadTree) (.type "BaseException") = some true)
    (tt_BadTree : PySem.W.typeIn K (.ref A_BadTree) = some (.type "type"))
    (g_BadWay : PySem.W.nsIn K mainGlobals "BadWay" = some (some (.ref A_BadWay)))
    (kk_BadWay : PySem.W.keepIn K (.ref A_BadWay) = true)
    (x_BadWay : PySem.W.excIn K A_BadWay [.type "ValueError", .type "Exception", .type "BaseException", .type "object"] "ValueError.__new__" = true)
    (sb_BadWay : PySem.W.subIn K (.ref A_BadWay) (.type "BaseException") = some true)
    (tt_BadWay : PySem.W.typeIn K (.ref A_BadWay) = some (.type "type"))
    (g_BadTimes : PySem.W.nsIn K mainGlobals "BadTimes" = some (some (.ref A_BadTimes)))
    (kk_BadTimes : PySem.W.keepIn K (.ref A_BadTimes) = true)
    (x_BadTimes : PySem.W.excIn K A_BadTimes [.type "ValueError", .type "Exception", .type "BaseException", .type "object"] "ValueError.__new__" = true)
    (sb_BadTimes : PySem.W.subIn K (.ref A_BadTimes) (.type "BaseException") = some true)
    (tt_BadTimes : PySem.W.typeIn K (.ref A_BadTimes) = some (.type "type"))
    (g_BadNumber : PySem.W.nsIn K mainGlobals "BadNumber" = some (some (.ref A_BadNumber)))
    (kk_BadNumber : PySem.W.keepIn K (.ref A_BadNumber) = true)
    (x_BadNumber : PySem.W.excIn K A_BadNumber [.type "ValueError", .type "Exception", .type "BaseException", .type "object"] "ValueError.__new__" = true)
    (sb_BadNumber : PySem.W.subIn K (.ref A_BadNumber) (.type "BaseException") = some true)
    (tt_BadNumber : PySem.W.typeIn K (.ref A_BadNumber) = some (.type "type"))
    (g_BadBase : PySem.W.nsIn K mainGlobals "BadBase" = some (some (.ref A_BadBase)))
    (kk_BadBase : PySem.W.keepIn K (.ref A_BadBase) = true)
    (x_BadBase : PySem.W.excIn K A_BadBase [.type "ValueError", .type "Exception", .type "BaseException", .type "object"] "ValueError.__new__" = true)
    (sb_BadBase : PySem.W.subIn K (.ref A_BadBase) (.type "BaseException") = some true)
    (tt_BadBase : PySem.W.typeIn K (.ref A_BadBase) = some (.type "type"))
    (g_BadText : PySem.W.nsIn K mainGlobals "BadText" = some (some (.ref A_BadText)))
    (kk_BadText : PySem.W.keepIn K (.ref A_BadText) = true)
    (x_BadText : PySem.W.excIn K A_BadText [.type "ValueError", .type "Exception", .type "BaseException", .type "object"] "ValueError.__new__" = true)
    (sb_BadText : PySem.W.subIn K (.ref A_BadText) (.type "BaseException") = some true)
    (tt_BadText : PySem.W.typeIn K (.ref A_BadText) = some (.type "type"))
    (g_TooGreat : PySem.W.nsIn K mainGlobals "TooGreat" = some (some (.ref A_TooGreat)))
    (kk_TooGreat : PySem.W.keepIn K (.ref A_TooGreat) = true)
    (x_TooGreat : PySem.W.excIn K A_TooGreat [.type "ValueError", .type "Exception", .type "BaseException", .type "object"] "ValueError.__new__" = true)
    (sb_TooGreat : PySem.W.subIn K (.ref A_TooGreat) (.type "BaseException") = some true)
    (tt_TooGreat : PySem.W.typeIn K (.ref A_TooGreat) = some (.type "type"))
    (hd_HeadError : PySem.W.hasDictIn K A_HeadError = true)
    (e_hn : PySem.W.specialIn K (.builtin "object.__class__") "__get__" = some (some (.builtin "getset_descriptor.__get__")))
    (e_ht : PySem.W.takesIn K (.builtin "object.__class__") = some true)
    (e_hg_BadTree : PySem.W.findIn K (.ref A_BadTree) "__getattribute__" = some (some (.builtin "BaseException.__getattribute__")))
    (e_hk_BadTree : PySem.W.findIn K (.ref A_BadTree) "__getattr__" = some none)
    (e_hd_BadTree : PySem.W.hasDictIn K A_BadTree = true)
    (e_ha_BadTree : PySem.W.findIn K (.ref A_BadTree) "__class__" = some (some (.builtin "object.__class__")))
    (e_hm_BadTree : PySem.W.mroIn K A_BadTree (.type "object") = some true)
    (su_BadTree : PySem.W.subIn K (.ref A_BadTree) (.ref A_HeadError) = some true)
    (kt_BadTree_BadBase : PySem.W.subIn K (.ref A_BadTree) (.ref A_BadBase) = some false)
    (kt_BadTree_TooGreat : PySem.W.subIn K (.ref A_BadTree) (.ref A_TooGreat) = some false)
    (ks_BadTree : PySem.W.subIn K (.ref A_BadTree) (.ref A_BadTree) = some true)
    (e_hg_TooGreat : PySem.W.findIn K (.ref A_TooGreat) "__getattribute__" = some (some (.builtin "BaseException.__getattribute__")))
    (e_hk_TooGreat : PySem.W.findIn K (.ref A_TooGreat) "__getattr__" = some none)
    (e_hd_TooGreat : PySem.W.hasDictIn K A_TooGreat = true)
    (e_ha_TooGreat : PySem.W.findIn K (.ref A_TooGreat) "__class__" = some (some (.builtin "object.__class__")))
    (e_hm_TooGreat : PySem.W.mroIn K A_TooGreat (.type "object") = some true)
    (su_TooGreat : PySem.W.subIn K (.ref A_TooGreat) (.ref A_HeadError) = some true)
    (kt_TooGreat_BadBase : PySem.W.subIn K (.ref A_TooGreat) (.ref A_BadBase) = some false)
    (kt_TooGreat_TooGreat : PySem.W.subIn K (.ref A_TooGreat) (.ref A_TooGreat) = some true)
    (ks_TooGreat : PySem.W.subIn K (.ref A_TooGreat) (.ref A_TooGreat) = some true)
    (e_hg_BadWay : PySem.W.findIn K (.ref A_BadWay) "__getattribute__" = some (some (.builtin "BaseException.__getattribute__")))
    (e_hk_BadWay : PySem.W.findIn K (.ref A_BadWay) "__getattr__" = some none)
    (e_hd_BadWay : PySem.W.hasDictIn K A_BadWay = true)
    (e_ha_BadWay : PySem.W.findIn K (.ref A_BadWay) "__class__" = some (some (.builtin "object.__class__")))
    (e_hm_BadWay : PySem.W.mroIn K A_BadWay (.type "object") = some true)
    (su_BadWay : PySem.W.subIn K (.ref A_BadWay) (.ref A_HeadError) = some true)
    (kt_BadWay_BadBase : PySem.W.subIn K (.ref A_BadWay) (.ref A_BadBase) = some false)
    (kt_BadWay_TooGreat : PySem.W.subIn K (.ref A_BadWay) (.ref A_TooGreat) = some false)
    (ks_BadWay : PySem.W.subIn K (.ref A_BadWay) (.ref A_BadWay) = some true)
    (e_hg_BadTimes : PySem.W.findIn K (.ref A_BadTimes) "__getattribute__" = some (some (.builtin "BaseException.__getattribute__")))
    (e_hk_BadTimes : PySem.W.findIn K (.ref A_BadTimes) "__getattr__" = some none)
    (e_hd_BadTimes : PySem.W.hasDictIn K A_BadTimes = true)
    (e_ha_BadTimes : PySem.W.findIn K (.ref A_BadTimes) "__class__" = some (some (.builtin "object.__class__")))
    (e_hm_BadTimes : PySem.W.mroIn K A_BadTimes (.type "object") = some true)
    (su_BadTimes : PySem.W.subIn K (.ref A_BadTimes) (.ref A_HeadError) = some true)
    (kt_BadTimes_BadBase : PySem.W.subIn K (.ref A_BadTimes) (.ref A_BadBase) = some false)
    (kt_BadTimes_TooGreat : PySem.W.subIn K (.ref A_BadTimes) (.ref A_TooGreat) = some false)
    (ks_BadTimes : PySem.W.subIn K (.ref A_BadTimes) (.ref A_BadTimes) = some true)
    (e_hg_BadBase : PySem.W.findIn K (.ref A_BadBase) "__getattribute__" = some (some (.builtin "BaseException.__getattribute__")))
    (e_hk_BadBase : PySem.W.findIn K (.ref A_BadBase) "__getattr__" = some none)
    (e_hd_BadBase : PySem.W.hasDictIn K A_BadBase = true)
    (e_ha_BadBase : PySem.W.findIn K (.ref A_BadBase) "__class__" = some (some (.builtin "object.__class__")))
    (e_hm_BadBase : PySem.W.mroIn K A_BadBase (.type "object") = some true)
    (su_BadBase : PySem.W.subIn K (.ref A_BadBase) (.ref A_HeadError) = some true)
    (kt_BadBase_BadBase : PySem.W.subIn K (.ref A_BadBase) (.ref A_BadBase) = some true)
    (kt_BadBase_TooGreat : PySem.W.subIn K (.ref A_BadBase) (.ref A_TooGreat) = some false)
    (ks_BadBase : PySem.W.subIn K (.ref A_BadBase) (.ref A_BadBase) = some true)
    (e_hg_BadNumber : PySem.W.findIn K (.ref A_BadNumber) "__getattribute__" = some (some (.builtin "BaseException.__getattribute__")))
    (e_hk_BadNumber : PySem.W.findIn K (.ref A_BadNumber) "__getattr__" = some none)
    (e_hd_BadNumber : PySem.W.hasDictIn K A_BadNumber = true)
    (e_ha_BadNumber : PySem.W.findIn K (.ref A_BadNumber) "__class__" = some (some (.builtin "object.__class__")))
    (e_hm_BadNumber : PySem.W.mroIn K A_BadNumber (.type "object") = some true)
    (su_BadNumber : PySem.W.subIn K (.ref A_BadNumber) (.ref A_HeadError) = some true)
    (kt_BadNumber_BadBase : PySem.W.subIn K (.ref A_BadNumber) (.ref A_BadBase) = some false)
    (kt_BadNumber_TooGreat : PySem.W.subIn K (.ref A_BadNumber) (.ref A_TooGreat) = some false)
    (ks_BadNumber : PySem.W.subIn K (.ref A_BadNumber) (.ref A_BadNumber) = some true)
    (e_hg_BadText : PySem.W.findIn K (.ref A_BadText) "__getattribute__" = some (some (.builtin "BaseException.__getattribute__")))
    (e_hk_BadText : PySem.W.findIn K (.ref A_BadText) "__getattr__" = some none)
    (e_hd_BadText : PySem.W.hasDictIn K A_BadText = true)
    (e_ha_BadText : PySem.W.findIn K (.ref A_BadText) "__class__" = some (some (.builtin "object.__class__")))
    (e_hm_BadText : PySem.W.mroIn K A_BadText (.type "object") = some true)
    (su_BadText : PySem.W.subIn K (.ref A_BadText) (.ref A_HeadError) = some true)
    (kt_BadText_BadBase : PySem.W.subIn K (.ref A_BadText) (.ref A_BadBase) = some false)
    (kt_BadText_TooGreat : PySem.W.subIn K (.ref A_BadText) (.ref A_TooGreat) = some false)
    (ks_BadText : PySem.W.subIn K (.ref A_BadText) (.ref A_BadText) = some true)
    (ic_BadBase : PySem.W.isClsIn K A_BadBase = true)
    (ic_TooGreat : PySem.W.isClsIn K A_TooGreat = true)
    (ec__law_promises_right : cd31 = .ref c__law_promises_right) (lc__law_promises_right : K.lookup c__law_promises_right = some ⟨e__law_promises_right, dd__law_promises_right, .fields vs__law_promises_right, sl__law_promises_right⟩) (vv__law_promises_right : vs__law_promises_right[11]? = some (.ref P__law_promises_right)) (np__law_promises_right : K.lookup P__law_promises_right = none) :
    ∃ (c P : Addr) (fd : FuncData) (sp : Sp), PySem.W.tabIn K "_law_promises_right" = some (c, P) ∧ K.lookup P = none ∧ (∀ (s : Shared) (v : Value), BindsTo s fd ⟨[v], []⟩ [("_law_script", v)]) ∧
      (∀ (H : Hp) (a : Addr) (ns : List Int), ns.length ≤ 63 → (∀ z ∈ ns, Builtin.Int.intBits z ≤ 1048576) → H P = some (.tbl #[]) → SqL K H a (ns.map V.int) → sp [.ref a] H (fun v _ => v = .bl true) fun _ _ _ => False) ∧
      ∀ base : Heap, K.In base → base.Ns mainGlobals mg → LamX.TabB base mg c P → FnOk l.prog w K mg base CX0 48 fa fd ["_law_script"] sp := by
  have e := hfa.symm.trans (PySem.W.mg_of X G n32)
  cases e
  have F0 := fun_mk (st := s_is_tree) l0 c0 k0
  have F1 := fun_mk (st := s_asked_tree) l1 c1 k1
  have F2 := fun_mk (st := s_compared) l2 c2 k2
  have F3 := fun_mk (st := s_merged) l3 c3 k3
  have F4 := fun_mk (st := s_copied) l4 c4 k4
  have F5 := fun_mk (st := s_told_of) l5 c5 k5
  have F6 := fun_mk (st := s_told) l6 c6 k6
  have F7 := fun_mk (st := s_compare) l7 c7 k7
  have F8 := fun_mk (st := s_knots) l8 c8 k8
  have F9 := fun_mk (st := s_asked_great) l9 c9 k9
  have F10 := fun_mk (st := s_together) l10 c10 k10
  have F11 := fun_mk (st := s_behind) l11 c11 k11
  have F12 := fun_mk (st := s_is_number) l12 c12 k12
  have F13 := fun_mk (st := s_heads_of) l13 c13 k13
  have F14 := fun_mk (st := s_heads) l14 c14 k14
  have F15 := fun_mk (st := s_knot_at) l15 c15 k15
  have F16 := fun_mk (st := s_cut_of) l16 c16 k16
  have F17 := fun_mk (st := s_cut) l17 c17 k17
  have F18 := fun_mk (st := s_asked_base) l18 c18 k18
  have F19 := fun_mk (st := s_written_of) l19 c19 k19
  have F20 := fun_mk (st := s_written) l20 c20 k20
  have F21 := fun_mk (st := s_can_write) l21 c21 k21
  have F22 := fun_mk (st := s_value_of) l22 c22 k22
  have F23 := fun_mk (st := s_number_of) l23 c23 k23
  have F24 := fun_mk (st := s_stepped) l24 c24 k24
  have F25 := fun_mk (st := s_text_of) l25 c25 k25
  have F26 := fun_mk (st := s_text) l26 c26 k26
  have F27 := fun_mk (st := s_read) l27 c27 k27
  have F28 := fun_mk (st := s__law_number) l28 c28 k28
  have F29 := fun_mk (st := s__law_plain) l29 c29 k29
  have F30 := fun_mk (st := s__law_no_of) l30 c30 k30
  have F31 := fun_mk (st := s__law_promises_right) l31 c31 k31
  have F32 := fun_mk (st := s_law) l32 c32 k32
  let T : Txt K mg := {
    a_is_tree := a_is_tree, d_is_tree := _, F_is_tree := F0, b_is_tree := (F0.binds (ps := ["thing", "depth", "left"]) fun _ _ _ _ _ _ us hl => match us, hl with | [_, _, _], _ => rfl), m_is_tree := PySem.W.mg_of X G n0, k_is_tree := k0,
    a_asked_tree := a_asked_tree, d_asked_tree := _, F_asked_tree := F1, b_asked_tree := (F1.binds (ps := ["tree"]) fun _ _ _ _ _ _ us hl => match us, hl with | [_], _ => rfl), m_asked_tree := PySem.W.mg_of X G n1, k_asked_tree := k1,
    a_compared := a_compared, d_compared := _, F_compared := F2, b_compared := (F2.binds (ps := ["one", "other"]) fun _ _ _ _ _ _ us hl => match us, hl with | [_, _], _ => rfl), m_compared := PySem.W.mg_of X G n2, k_compared := k2,
    a_merged := a_merged, d_merged := _, F_merged := F3, b_merged := (F3.binds (ps := ["one", "other"]) fun _ _ _ _ _ _ us hl => match us, hl with | [_, _], _ => rfl), m_merged := PySem.W.mg_of X G n3, k_merged := k3,
    a_copied := a_copied, d_copied := _, F_copied := F4, b_copied := (F4.binds (ps := ["tree"]) fun _ _ _ _ _ _ us hl => match us, hl with | [_], _ => rfl), m_copied := PySem.W.mg_of X G n4, k_copied := k4,
    a_told_of := a_told_of, d_told_of := _, F_told_of := F5, b_told_of := (F5.binds (ps := ["tree"]) fun _ _ _ _ _ _ us hl => match us, hl with | [_], _ => rfl), m_told_of := PySem.W.mg_of X G n5, k_told_of := k5,
    a_told := a_told, d_told := _, F_told := F6, b_told := (F6.binds (ps := ["tree"]) fun _ _ _ _ _ _ us hl => match us, hl with | [_], _ => rfl), m_told := PySem.W.mg_of X G n6, k_told := k6,
    a_compare := a_compare, d_compare := _, F_compare := F7, b_compare := (F7.binds (ps := ["one", "other"]) fun _ _ _ _ _ _ us hl => match us, hl with | [_, _], _ => rfl), m_compare := PySem.W.mg_of X G n7, k_compare := k7,
    a_knots := a_knots, d_knots := _, F_knots := F8, b_knots := (F8.binds (ps := ["tree"]) fun _ _ _ _ _ _ us hl => match us, hl with | [_], _ => rfl), m_knots := PySem.W.mg_of X G n8, k_knots := k8,
    a_asked_great := a_asked_great, d_asked_great := _, F_asked_great := F9, b_asked_great := (F9.binds (ps := ["tree"]) fun _ _ _ _ _ _ us hl => match us, hl with | [_], _ => rfl), m_asked_great := PySem.W.mg_of X G n9, k_asked_great := k9,
    a_together := a_together, d_together := _, F_together := F10, b_together := (F10.binds (ps := ["one", "other"]) fun _ _ _ _ _ _ us hl => match us, hl with | [_, _], _ => rfl), m_together := PySem.W.mg_of X G n10, k_together := k10,
    a_behind := a_behind, d_behind := _, F_behind := F11, b_behind := (F11.binds (ps := ["one", "other"]) fun _ _ _ _ _ _ us hl => match us, hl with | [_, _], _ => rfl), m_behind := PySem.W.mg_of X G n11, k_behind := k11,
    a_is_number := a_is_number, d_is_number := _, F_is_number := F12, b_is_number := (F12.binds (ps := ["thing"]) fun _ _ _ _ _ _ us hl => match us, hl with | [_], _ => rfl), m_is_number := PySem.W.mg_of X G n12, k_is_number := k12,
    a_heads_of := a_heads_of, d_heads_of := _, F_heads_of := F13, b_heads_of := (F13.binds (ps := ["tree"]) fun _ _ _ _ _ _ us hl => match us, hl with | [_], _ => rfl), m_heads_of := PySem.W.mg_of X G n13, k_heads_of := k13,
    a_heads := a_heads, d_heads := _, F_heads := F14, b_heads := (F14.binds (ps := ["tree"]) fun _ _ _ _ _ _ us hl => match us, hl with | [_], _ => rfl), m_heads := PySem.W.mg_of X G n14, k_heads := k14,
    a_knot_at := a_knot_at, d_knot_at := _, F_knot_at := F15, b_knot_at := (F15.binds (ps := ["tree", "way"]) fun _ _ _ _ _ _ us hl => match us, hl with | [_, _], _ => rfl), m_knot_at := PySem.W.mg_of X G n15, k_knot_at := k15,
    a_cut_of := a_cut_of, d_cut_of := _, F_cut_of := F16, b_cut_of := (F16.binds (ps := ["tree", "way", "times"]) fun _ _ _ _ _ _ us hl => match us, hl with | [_, _, _], _ => rfl), m_cut_of := PySem.W.mg_of X G n16, k_cut_of := k16,
    a_cut := a_cut, d_cut := _, F_cut := F17, b_cut := (F17.binds (ps := ["tree", "way", "times"]) fun _ _ _ _ _ _ us hl => match us, hl with | [_, _, _], _ => rfl), m_cut := PySem.W.mg_of X G n17, k_cut := k17,
    a_asked_base := a_asked_base, d_asked_base := _, F_asked_base := F18, b_asked_base := (F18.binds (ps := ["base"]) fun _ _ _ _ _ _ us hl => match us, hl with | [_], _ => rfl), m_asked_base := PySem.W.mg_of X G n18, k_asked_base := k18,
    a_written_of := a_written_of, d_written_of := _, F_written_of := F19, b_written_of := (F19.binds (ps := ["number", "base", "left"]) fun _ _ _ _ _ _ us hl => match us, hl with | [_, _, _], _ => rfl), m_written_of := PySem.W.mg_of X G n19, k_written_of := k19,
    a_written := a_written, d_written := _, F_written := F20, b_written := (F20.binds (ps := ["number", "base"]) fun _ _ _ _ _ _ us hl => match us, hl with | [_, _], _ => rfl), m_written := PySem.W.mg_of X G n20, k_written := k20,
    a_can_write := a_can_write, d_can_write := _, F_can_write := F21, b_can_write := (F21.binds (ps := ["tree", "base"]) fun _ _ _ _ _ _ us hl => match us, hl with | [_, _], _ => rfl), m_can_write := PySem.W.mg_of X G n21, k_can_write := k21,
    a_value_of := a_value_of, d_value_of := _, F_value_of := F22, b_value_of := (F22.binds (ps := ["tree", "base"]) fun _ _ _ _ _ _ us hl => match us, hl with | [_, _], _ => rfl), m_value_of := PySem.W.mg_of X G n22, k_value_of := k22,
    a_number_of := a_number_of, d_number_of := _, F_number_of := F23, b_number_of := (F23.binds (ps := ["tree", "base"]) fun _ _ _ _ _ _ us hl => match us, hl with | [_, _], _ => rfl), m_number_of := PySem.W.mg_of X G n23, k_number_of := k23,
    a_stepped := a_stepped, d_stepped := _, F_stepped := F24, b_stepped := (F24.binds (ps := ["number", "base"]) fun _ _ _ _ _ _ us hl => match us, hl with | [_, _], _ => rfl), m_stepped := PySem.W.mg_of X G n24, k_stepped := k24,
    a_text_of := a_text_of, d_text_of := _, F_text_of := F25, b_text_of := (F25.binds (ps := ["tree"]) fun _ _ _ _ _ _ us hl => match us, hl with | [_], _ => rfl), m_text_of := PySem.W.mg_of X G n25, k_text_of := k25,
    a_text := a_text, d_text := _, F_text := F26, b_text := (F26.binds (ps := ["tree"]) fun _ _ _ _ _ _ us hl => match us, hl with | [_], _ => rfl), m_text := PySem.W.mg_of X G n26, k_text := k26,
    a_read := a_read, d_read := _, F_read := F27, b_read := (F27.binds (ps := ["text"]) fun _ _ _ _ _ _ us hl => match us, hl with | [_], _ => rfl), m_read := PySem.W.mg_of X G n27, k_read := k27,
    a__law_number := a__law_number, d__law_number := _, F__law_number := F28, b__law_number := (F28.binds (ps := ["_law_cell", "_law_at", "_law_whole"]) fun _ _ _ _ _ _ us hl => match us, hl with | [_, _, _], _ => rfl), m__law_number := PySem.W.mg_of X G n28, k__law_number := k28,
    a__law_plain := a__law_plain, d__law_plain := _, F__law_plain := F29, b__law_plain := (F29.binds (ps := ["_law_thing"]) fun _ _ _ _ _ _ us hl => match us, hl with | [_], _ => rfl), m__law_plain := PySem.W.mg_of X G n29, k__law_plain := k29,
    a__law_no_of := a__law_no_of, d__law_no_of := _, F__law_no_of := F30, b__law_no_of := (F30.binds (ps := ["_law_ask"]) fun _ _ _ _ _ _ us hl => match us, hl with | [_], _ => rfl), m__law_no_of := PySem.W.mg_of X G n30, k__law_no_of := k30,
    a__law_promises_right := a__law_promises_right, d__law_promises_right := _, F__law_promises_right := F31, b__law_promises_right := (F31.binds (ps := []) fun _ _ _ _ _ _ us hl => match us, hl with | [], _ => rfl), m__law_promises_right := PySem.W.mg_of X G n31, k__law_promises_right := k31,
    a_law := fa, d_law := _, F_law := F32, b_law := (F32.binds (ps := ["_law_script"]) fun _ _ _ _ _ _ us hl => match us, hl with | [_], _ => rfl), m_law := PySem.W.mg_of X G n32, k_law := k32,
    z_len := PySem.W.mg_none_of X G z_len,
    z_list := PySem.W.mg_none_of X G z_list,
    z_range := PySem.W.mg_none_of X G z_range,
    z_zip := PySem.W.mg_none_of X G z_zip,
    z_enumerate := PySem.W.mg_none_of X G z_enumerate,
    z_min := PySem.W.mg_none_of X G z_min,
    z_max := PySem.W.mg_none_of X G z_max,
    z_abs := PySem.W.mg_none_of X G z_abs,
    z_sum := PySem.W.mg_none_of X G z_sum,
    z_all := PySem.W.mg_none_of X G z_all,
    z_isinstance := PySem.W.mg_none_of X G z_isinstance,
    z_int := PySem.W.mg_none_of X G z_int,
    z_bool := PySem.W.mg_none_of X G z_bool,
    z_str := PySem.W.mg_none_of X G z_str,
    z_tuple := PySem.W.mg_none_of X G z_tuple,
    t_MOST := t_MOST, c_MOST := PySem.W.mg_of X G c_MOST,
    t_DEEPEST := t_DEEPEST, c_DEEPEST := PySem.W.mg_of X G c_DEEPEST,
    t_GREATEST := t_GREATEST, c_GREATEST := PySem.W.mg_of X G c_GREATEST,
    c__law_promises_right := c__law_promises_right, P__law_promises_right := P__law_promises_right, hc__law_promises_right := ec__law_promises_right,
    A_HeadError := A_HeadError, g_HeadError := PySem.W.mg_of X G g_HeadError, k_HeadError := kk_HeadError, x_HeadError := x_HeadError, sb_HeadError := sb_HeadError, tt_HeadError := tt_HeadError,
    A_BadTree := A_BadTree, g_BadTree := PySem.W.mg_of X G g_BadTree, k_BadTree := kk_BadTree, x_BadTree := x_BadTree, sb_BadTree := sb_BadTree, tt_BadTree := tt_BadTree,
    A_BadWay := A_BadWay, g_BadWay := PySem.W.mg_of X G g_BadWay, k_BadWay := kk_BadWay, x_BadWay := x_BadWay, sb_BadWay := sb_BadWay, tt_BadWay := tt_BadWay,
    A_BadTimes := A_BadTimes, g_BadTimes := PySem.W.mg_of X G g_BadTimes, k_BadTimes := kk_BadTimes, x_BadTimes := x_BadTimes, sb_BadTimes := sb_BadTimes, tt_BadTimes := tt_BadTimes,
    A_BadNumber := A_BadNumber, g_BadNumber := PySem.W.mg_of X G g_BadNumber, k_BadNumber := kk_BadNumber, x_BadNumber := x_BadNumber, sb_BadNumber := sb_BadNumber, tt_BadNumber := tt_BadNumber,
    A_BadBase := A_BadBase, g_BadBase := PySem.W.mg_of X G g_BadBase, k_BadBase := kk_BadBase, x_BadBase := x_BadBase, sb_BadBase := sb_BadBase, tt_BadBase := tt_BadBase,
    A_BadText := A_BadText, g_BadText := PySem.W.mg_of X G g_BadText, k_BadText := kk_BadText, x_BadText := x_BadText, sb_BadText := sb_BadText, tt_BadText := tt_BadText,
    A_TooGreat := A_TooGreat, g_TooGreat := PySem.W.mg_of X G g_TooGreat, k_TooGreat := kk_TooGreat, x_TooGreat := x_TooGreat, sb_TooGreat := sb_TooGreat, tt_TooGreat := tt_TooGreat,
    hd_HeadError := hd_HeadError,
    ex_BadTree := ⟨e_hg_BadTree, e_hk_BadTree, sb_BadTree, e_hd_BadTree, e_ha_BadTree, e_hn, e_ht, e_hm_BadTree⟩, su_BadTree := su_BadTree,
    kt_BadTree_BadBase := kit_mk ic_BadBase tt_BadBase kt_BadTree_BadBase ks_BadTree,
    kt_BadTree_TooGreat := kit_mk ic_TooGreat tt_TooGreat kt_BadTree_TooGreat ks_BadTree,
    ex_TooGreat := ⟨e_hg_TooGreat, e_hk_TooGreat, sb_TooGreat, e_hd_TooGreat, e_ha_TooGreat, e_hn, e_ht, e_hm_TooGreat⟩, su_TooGreat := su_TooGreat,
    kt_TooGreat_BadBase := kit_mk ic_BadBase tt_BadBase kt_TooGreat_BadBase ks_TooGreat,
    kt_TooGreat_TooGreat := kit_mk ic_TooGreat tt_TooGreat kt_TooGreat_TooGreat ks_TooGreat,
    ex_BadWay := ⟨e_hg_BadWay, e_hk_BadWay, sb_BadWay, e_hd_BadWay, e_ha_BadWay, e_hn, e_ht, e_hm_BadWay⟩, su_BadWay := su_BadWay,
    kt_BadWay_BadBase := kit_mk ic_BadBase tt_BadBase kt_BadWay_BadBase ks_BadWay,
    kt_BadWay_TooGreat := kit_mk ic_TooGreat tt_TooGreat kt_BadWay_TooGreat ks_BadWay,
    ex_BadTimes := ⟨e_hg_BadTimes, e_hk_BadTimes, sb_BadTimes, e_hd_BadTimes, e_ha_BadTimes, e_hn, e_ht, e_hm_BadTimes⟩, su_BadTimes := su_BadTimes,
    kt_BadTimes_BadBase := kit_mk ic_BadBase tt_BadBase kt_BadTimes_BadBase ks_BadTimes,
    kt_BadTimes_TooGreat := kit_mk ic_TooGreat tt_TooGreat kt_BadTimes_TooGreat ks_BadTimes,
    ex_BadBase := ⟨e_hg_BadBase, e_hk_BadBase, sb_BadBase, e_hd_BadBase, e_ha_BadBase, e_hn, e_ht, e_hm_BadBase⟩, su_BadBase := su_BadBase,
    kt_BadBase_BadBase := kit_mk ic_BadBase tt_BadBase kt_BadBase_BadBase ks_BadBase,
    kt_BadBase_TooGreat := kit_mk ic_TooGreat tt_TooGreat kt_BadBase_TooGreat ks_BadBase,
    ex_BadNumber := ⟨e_hg_BadNumber, e_hk_BadNumber, sb_BadNumber, e_hd_BadNumber, e_ha_BadNumber, e_hn, e_ht, e_hm_BadNumber⟩, su_BadNumber := su_BadNumber,
    kt_BadNumber_BadBase := kit_mk ic_BadBase tt_BadBase kt_BadNumber_BadBase ks_BadNumber,
    kt_BadNumber_TooGreat := kit_mk ic_TooGreat tt_TooGreat kt_BadNumber_TooGreat ks_BadNumber,
    ex_BadText := ⟨e_hg_BadText, e_hk_BadText, sb_BadText, e_hd_BadText, e_ha_BadText, e_hn, e_ht, e_hm_BadText⟩, su_BadText := su_BadText,
    kt_BadText_BadBase := kit_mk ic_BadBase tt_BadBase kt_BadText_BadBase ks_BadText,
    kt_BadText_TooGreat := kit_mk ic_TooGreat tt_TooGreat kt_BadText_TooGreat ks_BadText }
  refine ⟨c__law_promises_right, P__law_promises_right, PySem.W.fnOf "law" "law" (defArgs s_law) (defBody s_law) (defScope s_law) .none kV32 dc32 pm32 an32 cd32 ct32, spLaw K T, tab_mk n31 l31 ec__law_promises_right lc__law_promises_right vv__law_promises_right, np__law_promises_right, fun s v => .of_eq rfl, fun H a ns hl hb hT hS => ⟨a, ns, rfl, hS, hl, fun n hn => (Bits.of_bits (hb n hn)).mono (by decide), fun p hp => ?_, fun _ => rfl⟩, fun base _ _ TB => ok_law T TB⟩
  rw [List.mem_singleton.mp hp]
  exact LamX.TabS.nil hT
open PySem PySem.Spec PyProof.Rows in
theorem walk {l : PySem.W.OpenLaw} {q : Program} {loose : List Str} {XP : (Str → Option Value) → Heap → Prop} {YP : World → Heap → Prop} {d d6 : DefRec} {K : Params → PySem.W.Frag} (hn : l.most = some 63) (hdf : d.params.defaults = [])
    (hrec : (recsOf q).find? (fun e : DefRec => e.name == Str.ofString "_law_promises_right") = some d6) (hY : ∀ (w : World) (h : Heap), YP w h → (K w.params).In h)
    (F : ∀ (w : World) (mg : Str → Option Value) (fa : Addr) (h : Heap), (K w.params).In h → h.Ns mainGlobals mg → mg d.name = some (.ref fa) →
      ∃ (c P : Addr) (fd : FuncData) (sp : Sp), PySem.W.tabIn (K w.params) "_law_promises_right" = some (c, P) ∧ (K w.params).lookup P = none ∧ (∀ (s : Shared) (v : Value), BindsTo s fd ⟨[v], []⟩ [("_law_script", v)]) ∧
      (∀ (H : Hp) (a : Addr) (ns : List Int), ns.length ≤ 63 → (∀ z ∈ ns, Builtin.Int.intBits z ≤ 1048576) → H P = some (.tbl #[]) → SqL (K w.params) H a (ns.map V.int) → sp [.ref a] H (fun v _ => v = .bl true) fun _ _ _ => False) ∧
      ∀ base : Heap, (K w.params).In base → base.Ns mainGlobals mg → LamX.TabB base mg c P → FnOk l.prog w (K w.params) mg base CX0 48 fa fd ["_law_script"] sp) :
    PySem.W.WalkO q loose XP YP l.row.toRowW d [] (fun f vs => PySem.call f vs) := by
  refine Att.attach_callB hn hdf fun w s0 s1 mg mb fa ob pm cd doc a vs ns G Y ho hd hcd hmg hobj hints hlen hbits hg => ?_
  have KX := hY w _ Y
  obtain ⟨c, P, fd, sp, ht, nP, hb, hsp, hF⟩ := F w mg fa _ KX G.T.g hmg
  obtain ⟨C, hP⟩ := PySem.W.tab_of G.T KX hrec ht
  refine LamX.law_callTs (cs := [(c, P)]) (sp := sp) KX G.T.g G.T.b G.T.builtins G.T.nolimit hg (fun p hp => ?_) (fun p hp => ?_) (fun p hp => ?_) G.T.bmain hobj hints (Nat.le_trans hlen (by decide)) ⟨rfl, by decide, by decide⟩ (fun base h1 h2 h3 => hF base h1 h2 (h3 _ (List.mem_singleton.mpr rfl))) hb (fun H hH hS => hsp H a ns hlen hbits (hH _ (List.mem_singleton.mpr rfl)) hS) fun H e s' z => z
  · rw [List.mem_singleton.mp hp]; exact hP
  · rw [List.mem_singleton.mp hp]; exact nP
  · rw [List.mem_singleton.mp hp]; exact C
end Hg
open PySem PySem.W PyProof.Rows
set_option maxRecDepth 100000 in
set_option maxHeartbeats 0 in
theorem PySem.Challenge.cw_headsgrow_k06_whole_numbers_holds : PySem.Challenge.rw_headsgrow_k06_whole_numbers.Holds := by
  w_on; o_law; k_head; (case hw => w_witness2)
  k_fill
  refine Hg.walk (l := PySem.Challenge.rw_headsgrow_k06_whole_numbers) rfl rfl (by rfl) (fun w h Y => PySem.W.km_in_of Y) ?F
  case F =>
    intro w mg fa h KX G hmg
    refine' Hg.all_mk KX G hmg ?n0 ?l0 ?c0 ?k0 ?n1 ?l1 ?c1 ?k1 ?n2 ?l2 ?c2 ?k2 ?n3 ?l3 ?c3 ?k3 ?n4 ?l4 ?c4 ?k4 ?n5 ?l5 ?c5 ?k5 ?n6 ?l6 ?c6 ?k6 ?n7 ?l7 ?c7 ?k7 ?n8 ?l8 ?c8 ?k8 ?n9 ?l9 ?c9 ?k9 ?n10 ?l10 ?c10 ?k10 ?n11 ?l11 ?c11 ?k11 ?n12 ?l12 ?c12 ?k12 ?n13 ?l13 ?c13 ?k13 ?n14 ?l14 ?c14 ?k14 ?n15 ?l15 ?c15 ?k15 ?n16 ?l16 ?c16 ?k16 ?n17 ?l17 ?c17 ?k17 ?n18 ?l18 ?c18 ?k18 ?n19 ?l19 ?c19 ?k19 ?n20 ?l20 ?c20 ?k20 ?n21 ?l21 ?c21 ?k21 ?n22 ?l22 ?c22 ?k22 ?n23 ?l23 ?c23 ?k23 ?n24 ?l24 ?c24 ?k24 ?n25 ?l25 ?c25 ?k25 ?n26 ?l26 ?c26 ?k26 ?n27 ?l27 ?c27 ?k27 ?n28 ?l28 ?c28 ?k28 ?n29 ?l29 ?c29 ?k29 ?n30 ?l30 ?c30 ?k30 ?n31 ?l31 ?c31 ?k31 ?n32 ?l32 ?c32 ?k32 ?z_len ?z_list ?z_range ?z_zip ?z_enumerate ?z_min ?z_max ?z_abs ?z_sum ?z_all ?z_isinstance ?z_int ?z_bool ?z_str ?z_tuple ?c_MOST ?c_DEEPEST ?c_GREATEST ?g_HeadError ?kk_HeadError ?x_HeadError ?sb_HeadError ?tt_HeadError ?g_BadTree ?kk_BadTree ?x_BadTree ?sb_BadTree ?tt_BadTree ?g_BadWay ?kk_BadWay ?x_BadWay ?sb_BadWay ?tt_BadWay ?g_BadTimes ?kk_BadTimes ?x_BadTimes ?sb_BadTimes ?tt_BadTimes ?g_BadNumber ?kk_BadNumber ?x_BadNumber ?sb_BadNumber ?tt_BadNumber ?g_BadBase ?kk_BadBase ?x_BadBase ?sb_BadBase ?tt_BadBase ?g_BadText ?kk_BadText ?x_BadText ?sb_BadText ?tt_BadText ?g_TooGreat ?kk_TooGreat ?x_TooGreat ?sb_TooGreat ?tt_TooGreat ?hd_HeadError ?e_hn ?e_ht ?e_hg_BadTree ?e_hk_BadTree ?e_hd_BadTree ?e_ha_BadTree ?e_hm_BadTree ?su_BadTree ?kt_BadTree_BadBase ?kt_BadTree_TooGreat ?ks_BadTree ?e_hg_TooGreat ?e_hk_TooGreat ?e_hd_TooGreat ?e_ha_TooGreat ?e_hm_TooGreat ?su_TooGreat ?kt_TooGreat_BadBase ?kt_TooGreat_TooGreat ?ks_TooGreat ?e_hg_BadWay ?e_hk_BadWay ?e_hd_BadWay ?e_ha_BadWay ?e_hm_BadWay ?su_BadWay ?kt_BadWay_BadBase ?kt_BadWay_TooGreat ?ks_BadWay ?e_hg_BadTimes ?e_hk_BadTimes ?e_hd_BadTimes ?e_ha_BadTimes ?e_hm_BadTimes ?su_BadTimes ?kt_BadTimes_BadBase ?kt_BadTimes_TooGreat ?ks_BadTimes ?e_hg_BadBase ?e_hk_BadBase ?e_hd_BadBase ?e_ha_BadBase ?e_hm_BadBase ?su_BadBase ?kt_BadBase_BadBase ?kt_BadBase_TooGreat ?ks_BadBase ?e_hg_BadNumber ?e_hk_BadNumber ?e_hd_BadNumber ?e_ha_BadNumber ?e_hm_BadNumber ?su_BadNumber ?kt_BadNumber_BadBase ?kt_BadNumber_TooGreat ?ks_BadNumber ?e_hg_BadText ?e_hk_BadText ?e_hd_BadText ?e_ha_BadText ?e_hm_BadText ?su_BadText ?kt_BadText_BadBase ?kt_BadText_TooGreat ?ks_BadText ?ic_BadBase ?ic_TooGreat ?ec__law_promises_right ?lc__law_promises_right ?vv__law_promises_right ?np__law_promises_right
    (case n0 => k_is)
    (case l0 => k_is)
    (case c0 => k_is)
    (case k0 => k_is)
    (case n1 => k_is)
    (case l1 => k_is)
    (case c1 => k_is)
    (case k1 => k_is)
    (case n2 => k_is)
    (case l2 => k_is)
    (case c2 => k_is)
    (case k2 => k_is)
    (case n3 => k_is)
    (case l3 => k_is)
    (case c3 => k_is)
    (case k3 => k_is)
    (case n4 => k_is)
    (case l4 => k_is)
    (case c4 => k_is)
    (case k4 => k_is)
    (case n5 => k_is)
    (case l5 => k_is)
    (case c5 => k_is)
    (case k5 => k_is)
    (case n6 => k_is)
    (case l6 => k_is)
    (case c6 => k_is)
    (case k6 => k_is)
    (case n7 => k_is)
    (case l7 => k_is)
    (case c7 => k_is)
    (case k7 => k_is)
    (case n8 => k_is)
    (case l8 => k_is)
    (case c8 => k_is)
    (case k8 => k_is)
    (case n9 => k_is)
    (case l9 => k_is)
    (case c9 => k_is)
    (case k9 => k_is)
    (case n10 => k_is)
    (case l10 => k_is)
    (case c10 => k_is)
    (case k10 => k_is)
    (case n11 => k_is)
    (case l11 => k_is)
    (case c11 => k_is)
    (case k11 => k_is)
    (case n12 => k_is)
    (case l12 => k_is)
    (case c12 => k_is)
    (case k12 => k_is)
    (case n13 => k_is)
    (case l13 => k_is)
    (case c13 => k_is)
    (case k13 => k_is)
    (case n14 => k_is)
    (case l14 => k_is)
    (case c14 => k_is)
    (case k14 => k_is)
    (case n15 => k_is)
    (case l15 => k_is)
    (case c15 => k_is)
    (case k15 => k_is)
    (case n16 => k_is)
    (case l16 => k_is)
    (case c16 => k_is)
    (case k16 => k_is)
    (case n17 => k_is)
    (case l17 => k_is)
    (case c17 => k_is)
    (case k17 => k_is)
    (case n18 => k_is)
    (case l18 => k_is)
    (case c18 => k_is)
    (case k18 => k_is)
    (case n19 => k_is)
    (case l19 => k_is)
    (case c19 => k_is)
    (case k19 => k_is)
    (case n20 => k_is)
    (case l20 => k_is)
    (case c20 => k_is)
    (case k20 => k_is)
    (case n21 => k_is)
    (case l21 => k_is)
    (case c21 => k_is)
    (case k21 => k_is)
    (case n22 => k_is)
    (case l22 => k_is)
    (case c22 => k_is)
    (case k22 => k_is)
    (case n23 => k_is)
    (case l23 => k_is)
    (case c23 => k_is)
    (case k23 => k_is)
    (case n24 => k_is)
    (case l24 => k_is)
    (case c24 => k_is)
    (case k24 => k_is)
    (case n25 => k_is)
    (case l25 => k_is)
    (case c25 => k_is)
    (case k25 => k_is)
    (case n26 => k_is)
    (case l26 => k_is)
    (case c26 => k_is)
    (case k26 => k_is)
    (case n27 => k_is)
    (case l27 => k_is)
    (case c27 => k_is)
    (case k27 => k_is)
    (case n28 => k_is)
    (case l28 => k_is)
    (case c28 => k_is)
    (case k28 => k_is)
    (case n29 => k_is)
    (case l29 => k_is)
    (case c29 => k_is)
    (case k29 => k_is)
    (case n30 => k_is)
    (case l30 => k_is)
    (case c30 => k_is)
    (case k30 => k_is)
    (case n31 => k_is)
    (case l31 => k_is)
    (case c31 => k_is)
    (case k31 => k_is)
    (case n32 => k_is)
    (case l32 => k_is)
    (case c32 => k_is)
    (case k32 => k_is)
    (case z_len => k_is)
    (case z_list => k_is)
    (case z_range => k_is)
    (case z_zip => k_is)
    (case z_enumerate => k_is)
    (case z_min => k_is)
    (case z_max => k_is)
    (case z_abs => k_is)
    (case z_sum => k_is)
    (case z_all => k_is)
    (case z_isinstance => k_is)
    (case z_int => k_is)
    (case z_bool => k_is)
    (case z_str => k_is)
    (case z_tuple => k_is)
    (case c_MOST => k_is)
    (case c_DEEPEST => k_is)
    (case c_GREATEST => k_is)
    (case g_HeadError => k_is)
    (case kk_HeadError => k_is)
    (case x_HeadError => k_exc)
    (case sb_HeadError => k_is)
    (case tt_HeadError => k_is)
    (case g_BadTree => k_is)
    (case kk_BadTree => k_is)
    (case x_BadTree => k_exc)
    (case sb_BadTree => k_is)
    (case tt_BadTree => k_is)
    (case g_BadWay => k_is)
    (case kk_BadWay => k_is)
    (case x_BadWay => k_exc)
    (case sb_BadWay => k_is)
    (case tt_BadWay => k_is)
    (case g_BadTimes => k_is)
    (case kk_BadTimes => k_is)
    (case x_BadTimes => k_exc)
    (case sb_BadTimes => k_is)
    (case tt_BadTimes => k_is)
    (case g_BadNumber => k_is)
    (case kk_BadNumber => k_is)
    (case x_BadNumber => k_exc)
    (case sb_BadNumber => k_is)
    (case tt_BadNumber => k_is)
    (case g_BadBase => k_is)
    (case kk_BadBase => k_is)
    (case x_BadBase => k_exc)
    (case sb_BadBase => k_is)
    (case tt_BadBase => k_is)
    (case g_BadText => k_is)
    (case kk_BadText => k_is)
    (case x_BadText => k_exc)
    (case sb_BadText => k_is)
    (case tt_BadText => k_is)
    (case g_TooGreat => k_is)
    (case kk_TooGreat => k_is)
    (case x_TooGreat => k_exc)
    (case sb_TooGreat => k_is)
    (case tt_TooGreat => k_is)
    (case hd_HeadError => k_is)
    (case e_hn => k_is)
    (case e_ht => k_is)
    (case e_hg_BadTree => k_is)
    (case e_hk_BadTree => k_is)
    (case e_hd_BadTree => k_is)
    (case e_ha_BadTree => k_is)
    (case e_hm_BadTree => k_is)
    (case su_BadTree => k_is)
    (case kt_BadTree_BadBase => k_is)
    (case kt_BadTree_TooGreat => k_is)
    (case ks_BadTree => k_is)
    (case e_hg_TooGreat => k_is)
    (case e_hk_TooGreat => k_is)
    (case e_hd_TooGreat => k_is)
    (case e_ha_TooGreat => k_is)
    (case e_hm_TooGreat => k_is)
    (case su_TooGreat => k_is)
    (case kt_TooGreat_BadBase => k_is)
    (case kt_TooGreat_TooGreat => k_is)
    (case ks_TooGreat => k_is)
    (case e_hg_BadWay => k_is)
    (case e_hk_BadWay => k_is)
    (case e_hd_BadWay => k_is)
    (case e_ha_BadWay => k_is)
    (case e_hm_BadWay => k_is)
    (case su_BadWay => k_is)
    (case kt_BadWay_BadBase => k_is)
    (case kt_BadWay_TooGreat => k_is)
    (case ks_BadWay => k_is)
    (case e_hg_BadTimes => k_is)
    (case e_hk_BadTimes => k_is)
    (case e_hd_BadTimes => k_is)
    (case e_ha_BadTimes => k_is)
    (case e_hm_BadTimes => k_is)
    (case su_BadTimes => k_is)
    (case kt_BadTimes_BadBase => k_is)
    (case kt_BadTimes_TooGreat => k_is)
    (case ks_BadTimes => k_is)
    (case e_hg_BadBase => k_is)
    (case e_hk_BadBase => k_is)
    (case e_hd_BadBase => k_is)
    (case e_ha_BadBase => k_is)
    (case e_hm_BadBase => k_is)
    (case su_BadBase => k_is)
    (case kt_BadBase_BadBase => k_is)
    (case kt_BadBase_TooGreat => k_is)
    (case ks_BadBase => k_is)
    (case e_hg_BadNumber => k_is)
    (case e_hk_BadNumber => k_is)
    (case e_hd_BadNumber => k_is)
    (case e_ha_BadNumber => k_is)
    (case e_hm_BadNumber => k_is)
    (case su_BadNumber => k_is)
    (case kt_BadNumber_BadBase => k_is)
    (case kt_BadNumber_TooGreat => k_is)
    (case ks_BadNumber => k_is)
    (case e_hg_BadText => k_is)
    (case e_hk_BadText => k_is)
    (case e_hd_BadText => k_is)
    (case e_ha_BadText => k_is)
    (case e_hm_BadText => k_is)
    (case su_BadText => k_is)
    (case kt_BadText_BadBase => k_is)
    (case kt_BadText_TooGreat => k_is)
    (case ks_BadText => k_is)
    (case ic_BadBase => k_is)
    (case ic_TooGreat => k_is)
    (case ec__law_promises_right => rfl)
    (case lc__law_promises_right => k_is)
    (case vv__law_promises_right => rfl)
    (case np__law_promises_right => rfl)
#print axioms PySem.Challenge.cw_headsgrow_k06_whole_numbers_holds
