import PyProof.Rows.All
import Wide.All
import OpenK.AllK
import Wide.FinOn
import HandS.ForMost
import HandS.Exc
import HandS.TryOnly
import HandS.ExcOwn
import HandS.WordsExc
import HandS.IsInst
import HandS.ExcIs
import HandS.Deep
import HandS.Style
import HandS.More
import HandS.Walk
import HandS.Wide
import HandS.StrMore
import HandS.EndBits
import HandS.ExcCtx
import HandS.Hot
import HandS.HotCalls
import PySem.Challenge.RW_headsgrow_k04_whole_texts
set_option Elab.async false
set_option linter.all false
set_option maxRecDepth 100000
set_option maxHeartbeats 4000000
/-! Plain mathematics: trees, their order, told trees. -/
namespace Hg

inductive Tt where
  | mk (bs : List Tt)

def Tt.bs : Tt → List Tt
  | .mk l => l

theorem Tt.ind {P : Tt → Prop} (h : ∀ l, (∀ x, x ∈ l → P x) → P (.mk l)) : ∀ t, P t
  | .mk l => h l fun x hx => Tt.ind h x
termination_by t => sizeOf t
decreasing_by
  have := List.sizeOf_lt_of_mem hx
  simp only [Tt.mk.sizeOf_spec]
  omega

mutual
def cmp : Tt → Tt → Int
  | .mk a, .mk b => cmpL a b
def cmpL : List Tt → List Tt → Int
  | [], b => - (b.length : Int)
  | x :: a, [] => ((x :: a).length : Int)
  | x :: a, y :: b => if cmp x y ≠ 0 then cmp x y else cmpL a b
end

mutual
def knots : Tt → Nat
  | .mk l => 1 + knotsL l
def knotsL : List Tt → Nat
  | [] => 0
  | x :: l => knots x + knotsL l
end
mutual
def depth : Tt → Nat
  | .mk l => depthL l
def depthL : List Tt → Nat
  | [] => 0
  | x :: l => max (depth x + 1) (depthL l)
end

theorem cmp_mk (a b : List Tt) : cmp (.mk a) (.mk b) = cmpL a b := by rw [cmp]
theorem cmpL_nil_nil : cmpL [] [] = 0 := by simp [cmpL]
theorem cmpL_nil (b : List Tt) : cmpL [] b = - (b.length : Int) := by rw [cmpL]
theorem cmpL_cons_nil (x : Tt) (a : List Tt) : cmpL (x :: a) [] = ((x :: a).length : Int) := by rw [cmpL]
theorem cmpL_cons (x y : Tt) (a b : List Tt) : cmpL (x :: a) (y :: b) = if cmp x y ≠ 0 then cmp x y else cmpL a b := by rw [cmpL]
theorem cmpL_nil_r : ∀ a : List Tt, cmpL a [] = (a.length : Int)
  | [] => by simp [cmpL]
  | x :: a => cmpL_cons_nil x a

theorem cmpL_self_of : ∀ (l : List Tt), (∀ x, x ∈ l → cmp x x = 0) → cmpL l l = 0
  | [], _ => cmpL_nil_nil
  | x :: l, h => by
    rw [cmpL_cons, h x List.mem_cons_self, if_neg (by simp)]
    exact cmpL_self_of l fun y hy => h y (List.mem_cons_of_mem _ hy)
theorem cmp_self (t : Tt) : cmp t t = 0 := by
  induction t using Tt.ind with
  | h l ih => rw [cmp_mk]; exact cmpL_self_of l ih

theorem cmpL_anti_of : ∀ (a b : List Tt), (∀ x, x ∈ a → ∀ y, cmp x y = - cmp y x) → cmpL a b = - cmpL b a
  | [], b, _ => by rw [cmpL_nil, cmpL_nil_r]
  | x :: a, [], _ => by rw [cmpL_nil_r, cmpL_nil]; omega
  | x :: a, y :: b, h => by
    have e := h x List.mem_cons_self y
    have ih := cmpL_anti_of a b fun z hz => h z (List.mem_cons_of_mem _ hz)
    rw [cmpL_cons, cmpL_cons]
    by_cases c : cmp x y = 0
    · rw [if_neg (by omega), if_neg (by omega)]; exact ih
    · rw [if_pos c, if_pos (by omega)]; exact e
theorem cmp_anti (x y : Tt) : cmp x y = - cmp y x := by
  induction x using Tt.ind generalizing y with
  | h l ih =>
    cases y with
    | mk b => rw [cmp_mk, cmp_mk]; exact cmpL_anti_of l b fun x hx y => ih x hx y

theorem cmpL_eq_of : ∀ (a b : List Tt), (∀ x, x ∈ a → ∀ y, cmp x y = 0 → x = y) → cmpL a b = 0 → a = b
  | [], [], _, _ => rfl
  | [], y :: b, _, e => by rw [cmpL_nil, List.length_cons] at e; omega
  | x :: a, [], _, e => by rw [cmpL_nil_r, List.length_cons] at e; omega
  | x :: a, y :: b, h, e => by
    rw [cmpL_cons] at e
    by_cases c : cmp x y = 0
    · rw [if_neg (by simp [c])] at e
      rw [h x List.mem_cons_self y c, cmpL_eq_of a b (fun z hz => h z (List.mem_cons_of_mem _ hz)) e]
    · rw [if_pos c] at e; exact absurd e c
theorem cmp_eq {x y : Tt} (e : cmp x y = 0) : x = y := by
  induction x using Tt.ind generalizing y with
  | h l ih =>
    cases y with
    | mk b =>
      rw [cmp_mk] at e
      rw [cmpL_eq_of l b (fun x hx y e => ih x hx e) e]
theorem cmp_zero {x y : Tt} : cmp x y = 0 ↔ x = y := ⟨cmp_eq, fun e => by rw [e]; exact cmp_self y⟩

/-- strictly less, transitively -/
theorem cmpL_trans_of : ∀ (a b c : List Tt), (∀ x, x ∈ a → ∀ y z, cmp x y < 0 → cmp y z < 0 → cmp x z < 0) → cmpL a b < 0 → cmpL b c < 0 → cmpL a c < 0
  | a, [], c, _, h1, _ => by rw [cmpL_nil_r] at h1; omega
  | a, y :: b, [], _, _, h2 => by rw [cmpL_nil_r] at h2; omega
  | [], y :: b, z :: c, _, _, _ => by rw [cmpL_nil, List.length_cons]; omega
  | x :: a, y :: b, z :: c, h, h1, h2 => by
    rw [cmpL_cons] at h1 h2 ⊢
    by_cases c1 : cmp x y = 0
    · have e := cmp_eq c1
      subst e
      rw [if_neg (by simp [c1])] at h1
      by_cases c2 : cmp x z = 0
      · rw [if_neg (by simp [c2])] at h2 ⊢
        exact cmpL_trans_of a b c (fun w hw => h w (List.mem_cons_of_mem _ hw)) h1 h2
      · rw [if_pos c2] at h2 ⊢; exact h2
    · rw [if_pos c1] at h1
      by_cases c2 : cmp y z = 0
      · have e := cmp_eq c2
        subst e
        rw [if_pos c1]; exact h1
      · rw [if_pos c2] at h2
        have := h x List.mem_cons_self y z h1 h2
        rw [if_pos (by omega)]; exact this
theorem cmp_lt_trans {x y z : Tt} (h1 : cmp x y < 0) (h2 : cmp y z < 0) : cmp x z < 0 := by
  induction x using Tt.ind generalizing y z with
  | h l ih =>
    cases y with
    | mk b =>
      cases z with
      | mk c =>
        rw [cmp_mk] at *
        exact cmpL_trans_of l b c (fun x hx y z a b => ih x hx a b) h1 h2
/-- x is worth at least y -/
def ge (x y : Tt) : Prop := 0 ≤ cmp x y
theorem ge_refl (x : Tt) : ge x x := by unfold ge; rw [cmp_self]; exact Int.le_refl 0
theorem ge_of_lt {x y : Tt} (h : cmp y x < 0) : ge x y := by unfold ge; rw [cmp_anti]; omega
theorem ge_total {x y : Tt} (h : ¬ ge x y) : cmp x y < 0 := by unfold ge at h; omega
theorem ge_cases {x y : Tt} (h : ge x y) : x = y ∨ cmp y x < 0 := by
  unfold ge at h
  by_cases c : cmp x y = 0
  · exact .inl (cmp_eq c)
  · right; rw [cmp_anti]; omega
theorem ge_trans {x y z : Tt} (h1 : ge x y) (h2 : ge y z) : ge x z := by
  rcases ge_cases h1 with e | l1
  · rw [e]; exact h2
  · rcases ge_cases h2 with e | l2
    · rw [← e]; exact h1
    · exact ge_of_lt (cmp_lt_trans l2 l1)
theorem ge_anti {x y : Tt} (h1 : ge x y) (h2 : ge y x) : x = y := by
  unfold ge at *
  rw [cmp_anti] at h2
  exact cmp_eq (by omega)
instance (x y : Tt) : Decidable (ge x y) := inferInstanceAs (Decidable (0 ≤ cmp x y))

/-! ### insertion, told -/
def ins (x : Tt) : List Tt → List Tt
  | [] => [x]
  | y :: l => if 0 ≤ cmp y x then y :: ins x l else x :: y :: l
mutual
def told : Tt → Tt
  | .mk l => .mk (toldL [] l)
def toldL (acc : List Tt) : List Tt → List Tt
  | [] => acc
  | b :: l => toldL (ins (told b) acc) l
end
theorem told_mk (l : List Tt) : told (.mk l) = .mk (toldL [] l) := by rw [told]
theorem toldL_nil (acc : List Tt) : toldL acc [] = acc := by rw [toldL]
theorem toldL_cons (acc : List Tt) (b : Tt) (l : List Tt) : toldL acc (b :: l) = toldL (ins (told b) acc) l := by rw [toldL]
theorem toldL_eq : ∀ (l acc : List Tt), toldL acc l = (l.map told).foldl (fun a x => ins x a) acc
  | [], acc => by rw [toldL_nil]; rfl
  | b :: l, acc => by rw [toldL_cons, toldL_eq l]; rfl
theorem toldL_append : ∀ (l m acc : List Tt), toldL acc (l ++ m) = toldL (toldL acc l) m
  | [], m, acc => by rw [toldL_nil]; rfl
  | b :: l, m, acc => by rw [List.cons_append, toldL_cons, toldL_cons, toldL_append l m]

/-- in falling turn -/
def Sd (l : List Tt) : Prop := l.Pairwise ge
theorem ins_perm (x : Tt) : ∀ l, (ins x l).Perm (x :: l)
  | [] => List.Perm.refl _
  | y :: l => by
    unfold ins
    split
    · exact ((ins_perm x l).cons y).trans (List.Perm.swap x y l)
    · exact List.Perm.refl _
theorem ins_sd (x : Tt) : ∀ l, Sd l → Sd (ins x l)
  | [], _ => by unfold Sd ins; exact List.pairwise_singleton _ _
  | y :: l, h => by
    obtain ⟨h1, h2⟩ := List.pairwise_cons.mp h
    unfold ins
    split
    · rename_i c
      refine List.pairwise_cons.mpr ⟨fun z hz => ?_, ins_sd x l h2⟩
      rcases List.mem_cons.mp ((ins_perm x l).mem_iff.mp hz) with e | hz
      · rw [e]; exact c
      · exact h1 z hz
    · rename_i c
      have g : ge x y := ge_of_lt (by omega)
      refine List.pairwise_cons.mpr ⟨fun z hz => ?_, h⟩
      rcases List.mem_cons.mp hz with e | hz
      · rw [e]; exact g
      · exact ge_trans g (h1 z hz)
theorem foldins_perm : ∀ (l acc : List Tt), (l.foldl (fun a x => ins x a) acc).Perm (acc ++ l)
  | [], acc => by simp
  | x :: l, acc => by
    rw [List.foldl_cons]
    refine (foldins_perm l _).trans ?_
    refine ((ins_perm x acc).append_right l).trans ?_
    exact (List.perm_middle (l₁ := acc) (a := x) (l₂ := l)).symm
theorem foldins_sd : ∀ (l acc : List Tt), Sd acc → Sd (l.foldl (fun a x => ins x a) acc)
  | [], _, h => h
  | x :: l, acc, h => by rw [List.foldl_cons]; exact foldins_sd l _ (ins_sd x acc h)
theorem toldL_perm (l acc : List Tt) : (toldL acc l).Perm (acc ++ l.map told) := by rw [toldL_eq]; exact foldins_perm _ _
theorem toldL_sd (l acc : List Tt) (h : Sd acc) : Sd (toldL acc l) := by rw [toldL_eq]; exact foldins_sd _ _ h
/-- two lists in falling turn of the same things are one -/
theorem sd_unique : ∀ (l m : List Tt), Sd l → Sd m → l.Perm m → l = m
  | [], m, _, _, p => (List.Perm.nil_eq p)
  | x :: l, [], _, _, p => absurd p.symm.nil_eq (by simp)
  | x :: l, y :: m, hl, hm, p => by
    obtain ⟨l1, l2⟩ := List.pairwise_cons.mp hl
    obtain ⟨m1, m2⟩ := List.pairwise_cons.mp hm
    have e : x = y := by
      have hx : x ∈ y :: m := p.mem_iff.mp List.mem_cons_self
      have hy : y ∈ x :: l := p.mem_iff.mpr List.mem_cons_self
      rcases List.mem_cons.mp hx with e | hx
      · exact e
      · rcases List.mem_cons.mp hy with e | hy
        · exact e.symm
        · exact ge_anti (l1 y hy) (m1 x hx)
    subst e
    rw [sd_unique l m l2 m2 (List.Perm.cons_inv p)]

/-- two told lists joined, as the program does it -/
def merge : List Tt → List Tt → List Tt
  | [], m => m
  | x :: l, [] => x :: l
  | x :: l, y :: m => if 0 ≤ cmp x y then x :: merge l (y :: m) else y :: merge (x :: l) m
termination_by l m => l.length + m.length
theorem merge_nil_r (l : List Tt) : merge l [] = l := by cases l <;> simp [merge]
theorem merge_perm (l m : List Tt) : (merge l m).Perm (l ++ m) := by
  fun_induction merge l m with
  | case1 m => exact List.Perm.refl _
  | case2 x l => simp
  | case3 x l y m h ih => exact ih.cons x
  | case4 x l y m h ih =>
    refine (ih.cons y).trans ?_
    exact (List.perm_middle (l₁ := x :: l) (a := y) (l₂ := m)).symm
theorem merge_sd (l m : List Tt) (hl : Sd l) (hm : Sd m) : Sd (merge l m) := by
  fun_induction merge l m with
  | case1 m => exact hm
  | case2 x l => exact hl
  | case3 x l y m h ih =>
    obtain ⟨l1, l2⟩ := List.pairwise_cons.mp hl
    refine List.pairwise_cons.mpr ⟨fun z hz => ?_, ih l2 hm⟩
    rcases List.mem_append.mp ((merge_perm l (y :: m)).mem_iff.mp hz) with hz | hz
    · exact l1 z hz
    · rcases List.mem_cons.mp hz with e | hz
      · rw [e]; exact h
      · exact ge_trans h ((List.pairwise_cons.mp hm).1 z hz)
  | case4 x l y m h ih =>
    obtain ⟨m1, m2⟩ := List.pairwise_cons.mp hm
    have g : ge y x := ge_of_lt (by omega)
    refine List.pairwise_cons.mpr ⟨fun z hz => ?_, ih hl m2⟩
    rcases List.mem_append.mp ((merge_perm (x :: l) m).mem_iff.mp hz) with hz | hz
    · rcases List.mem_cons.mp hz with e | hz
      · rw [e]; exact g
      · exact ge_trans g ((List.pairwise_cons.mp hl).1 z hz)
    · exact m1 z hz
theorem merge_one (x : Tt) (l : List Tt) : merge l [x] = ins x l := by
  induction l with
  | nil => simp [merge, ins]
  | cons y l ih =>
    unfold merge ins
    split
    · rw [ih]
    · rw [merge_nil_r]
/-- together -/
theorem merge_told (l m : List Tt) : merge (toldL [] l) (toldL [] m) = toldL [] (l ++ m) := by
  have nl : Sd [] := List.Pairwise.nil
  refine sd_unique _ _ (merge_sd _ _ (toldL_sd l [] nl) (toldL_sd m [] nl)) (toldL_sd _ [] nl) ?_
  refine (merge_perm _ _).trans ?_
  refine ((toldL_perm l []).append (toldL_perm m [])).trans ?_
  refine List.Perm.trans ?_ (toldL_perm (l ++ m) []).symm
  simp
end Hg
/-! Trees in the heap: read (TreeAt), owned (Own), made anew (New), grown (Grow). -/
namespace Hg
open PySem L2

mutual
def TreeAt (H : Hp) : V → Tt → Prop
  | v, .mk bs => ∃ a vs, v = .ref a ∧ H a = some (.lst vs) ∧ TreesAt H vs bs
def TreesAt (H : Hp) : List V → List Tt → Prop
  | vs, [] => vs = []
  | vs, b :: bs => ∃ v vs', vs = v :: vs' ∧ TreeAt H v b ∧ TreesAt H vs' bs
end
mutual
def Own (H : Hp) : V → Tt → List Addr → Prop
  | v, .mk bs, as => ∃ a vs as', v = .ref a ∧ as = a :: as' ∧ H a = some (.lst vs) ∧ Owns H vs bs as'
def Owns (H : Hp) : List V → List Tt → List Addr → Prop
  | vs, [], as => vs = [] ∧ as = []
  | vs, b :: bs, as => ∃ v vs' a1 a2, vs = v :: vs' ∧ as = a1 ++ a2 ∧ Own H v b a1 ∧ Owns H vs' bs a2
end
theorem treeAt_mk {H : Hp} {v : V} {bs : List Tt} : TreeAt H v (.mk bs) = ∃ a vs, v = .ref a ∧ H a = some (.lst vs) ∧ TreesAt H vs bs := by rw [TreeAt]
theorem treesAt_nil {H : Hp} {vs : List V} : TreesAt H vs [] = (vs = []) := by rw [TreesAt]
theorem treesAt_cons {H : Hp} {vs : List V} {b : Tt} {bs : List Tt} : TreesAt H vs (b :: bs) = ∃ v vs', vs = v :: vs' ∧ TreeAt H v b ∧ TreesAt H vs' bs := by rw [TreesAt]
theorem own_mk {H : Hp} {v : V} {bs : List Tt} {as : List Addr} : Own H v (.mk bs) as = ∃ a vs as', v = .ref a ∧ as = a :: as' ∧ H a = some (.lst vs) ∧ Owns H vs bs as' := by rw [Own]
theorem owns_nil {H : Hp} {vs : List V} {as : List Addr} : Owns H vs [] as = (vs = [] ∧ as = []) := by rw [Owns]
theorem owns_cons {H : Hp} {vs : List V} {b : Tt} {bs : List Tt} {as : List Addr} : Owns H vs (b :: bs) as = ∃ v vs' a1 a2, vs = v :: vs' ∧ as = a1 ++ a2 ∧ Own H v b a1 ∧ Owns H vs' bs a2 := by rw [Owns]

mutual
theorem TreeAt.same {H H' : Hp} (s : Same H H') : ∀ {v : V} (t : Tt), TreeAt H v t → TreeAt H' v t
  | v, .mk bs, h => by
    rw [treeAt_mk] at h ⊢
    obtain ⟨a, vs, e, h1, h2⟩ := h
    exact ⟨a, vs, e, s _ _ h1, TreesAt.same s bs h2⟩
theorem TreesAt.same {H H' : Hp} (s : Same H H') : ∀ {vs : List V} (ts : List Tt), TreesAt H vs ts → TreesAt H' vs ts
  | vs, [], h => by rw [treesAt_nil] at h ⊢; exact h
  | vs, b :: bs, h => by
    rw [treesAt_cons] at h ⊢
    obtain ⟨v, vs', e, h1, h2⟩ := h
    exact ⟨v, vs', e, TreeAt.same s b h1, TreesAt.same s bs h2⟩
end
mutual
theorem Own.at_ {H : Hp} : ∀ {v : V} (t : Tt) {as : List Addr}, Own H v t as → TreeAt H v t
  | v, .mk bs, as, h => by
    rw [own_mk] at h; rw [treeAt_mk]
    obtain ⟨a, vs, as', e, _, h1, h2⟩ := h
    exact ⟨a, vs, e, h1, Owns.at_ bs h2⟩
theorem Owns.at_ {H : Hp} : ∀ {vs : List V} (ts : List Tt) {as : List Addr}, Owns H vs ts as → TreesAt H vs ts
  | vs, [], as, h => by rw [owns_nil] at h; rw [treesAt_nil]; exact h.1
  | vs, b :: bs, as, h => by
    rw [owns_cons] at h; rw [treesAt_cons]
    obtain ⟨v, vs', a1, a2, e, _, h1, h2⟩ := h
    exact ⟨v, vs', e, Own.at_ b h1, Owns.at_ bs h2⟩
end
mutual
/-- what it owns is tracked; kept where its own places are kept -/
theorem Own.frame {H H' : Hp} : ∀ {v : V} (t : Tt) {as : List Addr}, Own H v t as → (∀ a, a ∈ as → ∀ o, H a = some o → H' a = some o) → Own H' v t as
  | v, .mk bs, as, h, k => by
    rw [own_mk] at h ⊢
    obtain ⟨a, vs, as', e, ea, h1, h2⟩ := h
    subst ea
    exact ⟨a, vs, as', e, rfl, k a List.mem_cons_self _ h1, Owns.frame bs h2 fun b hb => k b (List.mem_cons_of_mem _ hb)⟩
theorem Owns.frame {H H' : Hp} : ∀ {vs : List V} (ts : List Tt) {as : List Addr}, Owns H vs ts as → (∀ a, a ∈ as → ∀ o, H a = some o → H' a = some o) → Owns H' vs ts as
  | vs, [], as, h, _ => by rw [owns_nil] at h ⊢; exact h
  | vs, b :: bs, as, h, k => by
    rw [owns_cons] at h ⊢
    obtain ⟨v, vs', a1, a2, e, ea, h1, h2⟩ := h
    subst ea
    exact ⟨v, vs', a1, a2, e, rfl, Own.frame b h1 fun a ha => k a (List.mem_append_left _ ha), Owns.frame bs h2 fun a ha => k a (List.mem_append_right _ ha)⟩
end
mutual
theorem Own.tracked {H : Hp} : ∀ {v : V} (t : Tt) {as : List Addr}, Own H v t as → ∀ a, a ∈ as → ∃ xs, H a = some (.lst xs)
  | v, .mk bs, as, h, a, ha => by
    rw [own_mk] at h
    obtain ⟨a', vs, as', e, ea, h1, h2⟩ := h
    subst ea
    rcases List.mem_cons.mp ha with e | ha
    · rw [e]; exact ⟨vs, h1⟩
    · exact Owns.tracked bs h2 a ha
theorem Owns.tracked {H : Hp} : ∀ {vs : List V} (ts : List Tt) {as : List Addr}, Owns H vs ts as → ∀ a, a ∈ as → ∃ xs, H a = some (.lst xs)
  | vs, [], as, h, a, ha => by rw [owns_nil] at h; rw [h.2] at ha; cases ha
  | vs, b :: bs, as, h, a, ha => by
    rw [owns_cons] at h
    obtain ⟨v, vs', a1, a2, e, ea, h1, h2⟩ := h
    subst ea
    rcases List.mem_append.mp ha with ha | ha
    · exact Own.tracked b h1 a ha
    · exact Owns.tracked bs h2 a ha
end
theorem TreesAt.len {H : Hp} : ∀ {vs : List V} {ts : List Tt}, TreesAt H vs ts → vs.length = ts.length
  | vs, [], h => by rw [treesAt_nil] at h; rw [h]; rfl
  | vs, b :: bs, h => by
    rw [treesAt_cons] at h
    obtain ⟨v, vs', e, _, h2⟩ := h
    rw [e, List.length_cons, List.length_cons, TreesAt.len h2]
theorem TreesAt.get {H : Hp} : ∀ {vs : List V} {ts : List Tt} {i : Nat} {v : V}, TreesAt H vs ts → vs[i]? = some v → ∃ t, ts[i]? = some t ∧ TreeAt H v t
  | vs, [], i, v, h, e => by rw [treesAt_nil] at h; rw [h] at e; cases e
  | vs, b :: bs, i, v, h, e => by
    rw [treesAt_cons] at h
    obtain ⟨w, vs', ev, h1, h2⟩ := h
    subst ev
    cases i with
    | zero =>
      have e' : w = v := Option.some.inj (by simpa using e)
      exact ⟨b, rfl, e' ▸ h1⟩
    | succ i =>
      obtain ⟨t, e1, h3⟩ := TreesAt.get h2 (i := i) (v := v) (by simpa using e)
      exact ⟨t, by simpa using e1, h3⟩
theorem TreesAt.get' {H : Hp} {vs : List V} {ts : List Tt} {i : Nat} {t : Tt} (h : TreesAt H vs ts) (e : ts[i]? = some t) : ∃ v, vs[i]? = some v ∧ TreeAt H v t := by
  have hl := h.len
  obtain ⟨hi, _⟩ := List.getElem?_eq_some_iff.mp e
  have hv : i < vs.length := by omega
  obtain ⟨t', e', h'⟩ := h.get (List.getElem?_eq_getElem hv)
  rw [e] at e'
  cases e'
  exact ⟨_, List.getElem?_eq_getElem hv, h'⟩
theorem TreesAt.append {H : Hp} : ∀ {vs ws : List V} {ts us : List Tt}, TreesAt H vs ts → TreesAt H ws us → TreesAt H (vs ++ ws) (ts ++ us)
  | vs, ws, [], us, h, k => by rw [treesAt_nil] at h; rw [h]; exact k
  | vs, ws, b :: bs, us, h, k => by
    rw [treesAt_cons] at h
    obtain ⟨w, vs', ev, h1, h2⟩ := h
    subst ev
    rw [List.cons_append, List.cons_append, treesAt_cons]
    exact ⟨w, _, rfl, h1, TreesAt.append h2 k⟩
theorem TreesAt.one {H : Hp} {v : V} {t : Tt} (h : TreeAt H v t) : TreesAt H [v] [t] := by
  rw [treesAt_cons]; exact ⟨v, [], rfl, h, by rw [treesAt_nil]⟩
theorem Owns.append {H : Hp} : ∀ {vs ws : List V} {ts us : List Tt} {as bs : List Addr}, Owns H vs ts as → Owns H ws us bs → Owns H (vs ++ ws) (ts ++ us) (as ++ bs)
  | vs, ws, [], us, as, bs, h, k => by rw [owns_nil] at h; rw [h.1, h.2]; exact k
  | vs, ws, b :: ts, us, as, bs, h, k => by
    rw [owns_cons] at h
    obtain ⟨w, vs', a1, a2, ev, ea, h1, h2⟩ := h
    subst ev ea
    rw [List.cons_append, List.cons_append, owns_cons]
    exact ⟨w, _, a1, a2 ++ bs, rfl, List.append_assoc _ _ _, h1, Owns.append h2 k⟩
theorem Owns.one {H : Hp} {v : V} {t : Tt} {as : List Addr} (h : Own H v t as) : Owns H [v] [t] as := by
  rw [owns_cons]; exact ⟨v, [], as, [], rfl, by simp, h, by rw [owns_nil]; exact ⟨rfl, rfl⟩⟩
theorem Owns.split {H : Hp} : ∀ {ts us : List Tt} {vs : List V} {as : List Addr}, Owns H vs (ts ++ us) as → ∃ v1 v2 a1 a2, vs = v1 ++ v2 ∧ as = a1 ++ a2 ∧ Owns H v1 ts a1 ∧ Owns H v2 us a2
  | [], us, vs, as, h => ⟨[], vs, [], as, rfl, rfl, by rw [owns_nil]; exact ⟨rfl, rfl⟩, h⟩
  | b :: ts, us, vs, as, h => by
    rw [List.cons_append, owns_cons] at h
    obtain ⟨w, vs', a1, a2, ev, ea, h1, h2⟩ := h
    obtain ⟨v1, v2, b1, b2, e1, e2, k1, k2⟩ := Owns.split h2
    subst ev ea e1 e2
    refine ⟨w :: v1, v2, a1 ++ b1, b2, rfl, (List.append_assoc _ _ _).symm, ?_, k2⟩
    rw [owns_cons]
    exact ⟨w, v1, a1, b1, rfl, rfl, h1, k1⟩
theorem Owns.len {H : Hp} {vs : List V} {ts : List Tt} {as : List Addr} (h : Owns H vs ts as) : vs.length = ts.length := (Owns.at_ ts h).len

/-- a tree made anew behind H: all its lists are new, none stands in it twice -/
def New (H H' : Hp) (v : V) (t : Tt) : Prop := Same H H' ∧ ∃ as, Own H' v t as ∧ as.Nodup ∧ ∀ a, a ∈ as → H a = none
theorem New.at_ {H H' : Hp} {v : V} {t : Tt} (n : New H H' v t) : TreeAt H' v t := let ⟨_, _, o, _⟩ := n; Own.at_ t o
theorem New.of {H0 H H' : Hp} {v : V} {t : Tt} (n : New H H' v t) (s : Same H0 H) : New H0 H' v t := by
  obtain ⟨k, as, o, nd, f⟩ := n
  exact ⟨s.trans k, as, o, nd, fun a ha => s.free (f a ha)⟩
theorem New.step {H H' H2 : Hp} {v : V} {t : Tt} (n : New H H' v t) (s : Same H' H2) : New H H2 v t := by
  obtain ⟨k, as, o, nd, f⟩ := n
  exact ⟨k.trans s, as, Own.frame t o fun a _ u e => s a u e, nd, f⟩
theorem same_new {H : Hp} {p : Addr} (h : H p = none) (o : HO) : Same H (upd H p o) := fun b u q => by rw [upd_ne (ne_of_none q h)]; exact q

/-- a new list D that is filled with new trees -/
def Grow (H H' : Hp) (D : Addr) (ts : List Tt) : Prop := Same H H' ∧ H D = none ∧ ∃ acc as, H' D = some (.lst acc) ∧ Owns H' acc ts as ∧ (D :: as).Nodup ∧ ∀ a, a ∈ as → H a = none
theorem Grow.start {H : Hp} {D : Addr} (h : H D = none) : Grow H (upd H D (.lst [])) D [] :=
  ⟨same_new h _, h, [], [], upd_same, by rw [owns_nil]; exact ⟨rfl, rfl⟩, List.nodup_cons.mpr ⟨by simp, List.nodup_nil⟩, fun a ha => by cases ha⟩
theorem Grow.step {H H' H2 : Hp} {D : Addr} {ts : List Tt} (g : Grow H H' D ts) (s : Same H' H2) : Grow H H2 D ts := by
  obtain ⟨k, hD, acc, as, h1, h2, nd, f⟩ := g
  exact ⟨k.trans s, hD, acc, as, s _ _ h1, Owns.frame ts h2 fun a _ u e => s a u e, nd, f⟩
theorem Grow.same {H H' : Hp} {D : Addr} {ts : List Tt} (g : Grow H H' D ts) : Same H H' := g.1
theorem Grow.done {H H' : Hp} {D : Addr} {ts : List Tt} (g : Grow H H' D ts) : New H H' (.ref D) (.mk ts) := by
  obtain ⟨k, hD, acc, as, h1, h2, nd, f⟩ := g
  refine ⟨k, D :: as, by rw [own_mk]; exact ⟨D, acc, as, rfl, rfl, h1, h2⟩, nd, fun a ha => ?_⟩
  rcases List.mem_cons.mp ha with e | ha
  · rw [e]; exact hD
  · exact f a ha
theorem Grow.at_ {H H' : Hp} {D : Addr} {ts : List Tt} (g : Grow H H' D ts) : ∃ acc, H' D = some (.lst acc) ∧ TreesAt H' acc ts ∧ acc.length = ts.length := by
  obtain ⟨k, hD, acc, as, h1, h2, nd, f⟩ := g
  exact ⟨acc, h1, Owns.at_ ts h2, h2.len⟩
/-- a new tree put in at a place -/
theorem Grow.put {H H' H2 : Hp} {D : Addr} {l r : List Tt} {v : V} {t : Tt} (g : Grow H H' D (l ++ r)) (n : New H' H2 v t) :
    ∃ av rv, H2 D = some (.lst (av ++ rv)) ∧ av.length = l.length ∧ rv.length = r.length ∧ Grow H (upd H2 D (.lst (av ++ v :: rv))) D (l ++ t :: r) := by
  obtain ⟨k, hD, acc, as, h1, h2, nd, f⟩ := g
  obtain ⟨s, bs, o, nb, fb⟩ := n
  obtain ⟨av, rv, a1, a2, e1, e2, k1, k2⟩ := h2.split
  subst e1 e2
  have tr1 := Owns.tracked l k1
  have tr2 := Owns.tracked r k2
  have hDb : D ∉ bs := fun hb => by have := fb D hb; rw [h1] at this; cases this
  obtain ⟨nD, nas⟩ := List.nodup_cons.mp nd
  have dis1 : ∀ a, a ∈ a1 → a ∉ bs := fun a ha hb => by
    obtain ⟨xs, q⟩ := tr1 a ha; rw [fb a hb] at q; cases q
  have dis2 : ∀ a, a ∈ a2 → a ∉ bs := fun a ha hb => by
    obtain ⟨xs, q⟩ := tr2 a ha; rw [fb a hb] at q; cases q
  have keep : ∀ a, a ≠ D → ∀ u, H2 a = some u → upd H2 D (.lst (av ++ v :: rv)) a = some u := fun a ha u q => by rw [upd_ne ha]; exact q
  have ne1 : ∀ a, a ∈ a1 → a ≠ D := fun a ha e => nD (by rw [← e]; exact List.mem_append_left _ ha)
  have ne2 : ∀ a, a ∈ a2 → a ≠ D := fun a ha e => nD (by rw [← e]; exact List.mem_append_right _ ha)
  refine ⟨av, rv, s _ _ h1, k1.len, k2.len, ⟨fun b u q => ?_, hD, av ++ v :: rv, a1 ++ (bs ++ a2), upd_same, ?_, ?_, fun a ha => ?_⟩⟩
  · rw [upd_ne (ne_of_none q hD)]; exact s _ _ (k _ _ q)
  · refine Owns.append (Owns.frame l k1 fun a ha u q => keep a (ne1 a ha) u (s _ _ q)) ?_
    rw [owns_cons]
    refine ⟨v, rv, bs, a2, rfl, rfl, Own.frame t o fun a ha u q => keep a (fun e => hDb (e ▸ ha)) u q, Owns.frame r k2 fun a ha u q => keep a (ne2 a ha) u (s _ _ q)⟩
  · obtain ⟨n1, n2, n3⟩ := List.nodup_append.mp nas
    refine List.nodup_cons.mpr ⟨fun h => ?_, List.nodup_append.mpr ⟨n1, List.nodup_append.mpr ⟨nb, n2, fun a ha b hb e => dis2 b hb (e ▸ ha)⟩, fun a ha b hb e => ?_⟩⟩
    · rcases List.mem_append.mp h with h | h
      · exact ne1 D h rfl
      · rcases List.mem_append.mp h with h | h
        · exact hDb h
        · exact ne2 D h rfl
    · rcases List.mem_append.mp hb with hb | hb
      · exact dis1 a ha (e ▸ hb)
      · exact n3 a ha b hb e
  · rcases List.mem_append.mp ha with ha | ha
    · exact f a (List.mem_append_left _ ha)
    · rcases List.mem_append.mp ha with ha | ha
      · exact k.free (fb a ha)
      · exact f a (List.mem_append_right _ ha)
theorem Grow.more {H H' H2 : Hp} {D : Addr} {ts : List Tt} {v : V} {t : Tt} (g : Grow H H' D ts) (n : New H' H2 v t) :
    ∃ acc, H2 D = some (.lst acc) ∧ acc.length = ts.length ∧ Grow H (upd H2 D (.lst (acc ++ [v]))) D (ts ++ [t]) := by
  have g' : Grow H H' D (ts ++ []) := by rw [List.append_nil]; exact g
  obtain ⟨av, rv, h1, h2, h3, h4⟩ := g'.put n
  have e : rv = [] := List.length_eq_zero_iff.mp h3
  subst e
  rw [List.append_nil] at h1
  exact ⟨av, h1, h2, h4⟩

/-- no knot has too many branches for a list -/
def lim : Nat := 200000
mutual
def fit : Tt → Prop
  | .mk l => l.length ≤ lim ∧ fitL l
def fitL : List Tt → Prop
  | [] => True
  | x :: l => fit x ∧ fitL l
end
theorem fit_mk {l : List Tt} : fit (.mk l) = (l.length ≤ lim ∧ fitL l) := by rw [fit]
theorem fitL_iff : ∀ {l : List Tt}, fitL l ↔ ∀ x, x ∈ l → fit x
  | [] => by simp [fitL]
  | x :: l => by
    rw [fitL, fitL_iff (l := l)]
    simp
theorem fit_bs {l : List Tt} (h : fit (.mk l)) {x : Tt} (hx : x ∈ l) : fit x := by rw [fit_mk] at h; exact fitL_iff.mp h.2 x hx
theorem fit_len {l : List Tt} (h : fit (.mk l)) : l.length ≤ lim := by rw [fit_mk] at h; exact h.1
theorem lim_line {n : Nat} (h : n ≤ lim) : n < sizeLine := Nat.lt_of_le_of_lt h (by decide)
end Hg
/-! Own helpers over the hand layer: joining ways. -/
namespace Hg
open PySem L2
/-- a test's outcome told once, then what follows -/
theorem cut_t {t : TT} {σ : St} {H : Hp} {Q : Bool → Hp → Prop} (R : Bool → Hp → Prop) (h : ∀ Q' : Bool → Hp → Prop, (∀ b H', R b H' → Q' b H') → t σ H Q') (k : ∀ b H', R b H' → Q b H') : t σ H Q := h Q k
theorem cut_if {c : TT} {t u : TS} {D : Ends} {σ : St} {H : Hp} (R : Bool → Hp → Prop) (h : ∀ Q' : Bool → Hp → Prop, (∀ b H', R b H' → Q' b H') → c σ H Q') (k : ∀ b H', R b H' → if b = true then t D σ H' else u D σ H') : tIfS c t u D σ H := h _ k
theorem cut_e {t : TE} {σ : St} {H : Hp} {Q : VK} (R : V → Hp → Prop) (h : ∀ Q' : VK, (∀ v H', R v H' → Q' v H') → t σ H Q') (k : ∀ v H', R v H' → Q v H') : t σ H Q := h Q k
/-- a statement whose ways come together -/
def tCut (t u : TS) : TS := fun D σ H => ∃ N : St → Hp → Prop, t { D with nx := N } σ H ∧ ∀ σ' H', N σ' H' → u D σ' H'
theorem pss_cut2 {X : Cx} {st : Stmt} {rest : List Stmt} {t u : TS} (h1 : PS X st t) (h2 : PSs X rest u) : PSs X (st :: rest) (tCut t u) := by
  refine ⟨fun pins s σ H D I h => ?_⟩
  obtain ⟨N, h, k⟩ := h
  refine wpAny_execs_cons (thn (h1.run pins s σ H { D with nx := N } I h) fun f s1 q => ?_)
  cases f with
  | next =>
    obtain ⟨σ', H', I', q⟩ := q
    exact h2.run pins s1 σ' H' D I' (k σ' H' q)
  | ret v => exact q
  | brk => exact q
  | cont => exact q
def rLenS (K : PySem.W.Frag) : List V → Hp → VK → Prop := fun xs H Q => ∃ p ys, xs = [.ref p] ∧ (SqL K H p ys ∨ SqT K H p ys) ∧ Q (.int ys.length) H
theorem call_len_seqK {X : Cx} : CallR X (.builtin "len") (rLenS X.K) := call_len_seq
def rListOf (K : PySem.W.Frag) : List V → Hp → VK → Prop := fun xs H Q => ∃ p ys, xs = [.ref p] ∧ (SqL K H p ys ∨ SqT K H p ys) ∧ ∀ l, H l = none → Q (.ref l) (upd H l (.lst ys))
theorem call_list_ofK {X : Cx} : CallR X (.type "list") (rListOf X.K) := call_list_of
/-- * of great ints -/
def CMulX (i j : Int) : Prop := i.natAbs.log2 + j.natAbs.log2 < 100000000
theorem CMulX.ok {i j : Int} (h : CMulX i j) : IntMulOk i j := by
  have b : ∀ x : Int, Builtin.Int.intBits x ≤ x.natAbs.log2 + 1 := fun x => by
    unfold Builtin.Int.intBits
    split <;> omega
  have h1 := b i
  have h2 := b j
  have h3 : i.natAbs.log2 + j.natAbs.log2 < 100000000 := h
  have e : bitsLine = 134217728 := by decide
  unfold IntMulOk
  intro z
  rw [Bool.and_eq_true] at z
  have z2 := z.2
  unfold Builtin.Int.intTooBig at z2
  have z3 := of_decide_eq_true z2
  rw [e] at z3
  omega
theorem op_mulX {X : Cx} : OpR X (binaryOp .Mult) (rI CMulX fun i j => .int (i * j)) := opI fun _ _ _ _ _ _ _ hc q => PyProof.Rows.mul_int q hc.ok
theorem log2_le {n k : Nat} (h : n < 2 ^ k) : n.log2 ≤ k := by
  by_cases h0 : n = 0
  · subst h0; simp
  · exact Nat.le_of_lt ((Nat.log2_lt h0).mpr h)
/-- from bounds by powers of two -/
theorem mulX {i j : Int} {a b : Nat} (ha : i.natAbs < 2 ^ a) (hb : j.natAbs < 2 ^ b) (h : a + b < 100000000) : CMulX i j := by
  have x := log2_le ha
  have y := log2_le hb
  unfold CMulX
  omega
end Hg
/-! Things that may be no trees. -/
namespace Hg
open PySem L2
inductive Th where
  | no
  | li (xs : List Th)
mutual
def isT : Th → Nat → Int → Bool × Int
  | .no, _, L => (false, L)
  | .li xs, d, L => if 40 < d ∨ L < 1 then (false, L) else ((isTl xs (d + 1) (L - 1)).1.all id, (isTl xs (d + 1) (L - 1)).2)
def isTl : List Th → Nat → Int → List Bool × Int
  | [], _, L => ([], L)
  | x :: xs, d, L => ((isT x d L).1 :: (isTl xs d (isT x d L).2).1, (isTl xs d (isT x d L).2).2)
end
theorem isT_no {d : Nat} {L : Int} : isT .no d L = (false, L) := by rw [isT]
theorem isT_li {xs : List Th} {d : Nat} {L : Int} : isT (.li xs) d L = if 40 < d ∨ L < 1 then (false, L) else ((isTl xs (d + 1) (L - 1)).1.all id, (isTl xs (d + 1) (L - 1)).2) := by rw [isT]
theorem isTl_nil {d : Nat} {L : Int} : isTl [] d L = ([], L) := by rw [isTl]
theorem isTl_cons {x : Th} {xs : List Th} {d : Nat} {L : Int} : isTl (x :: xs) d L = ((isT x d L).1 :: (isTl xs d (isT x d L).2).1, (isTl xs d (isT x d L).2).2) := by rw [isTl]
theorem isTl_snoc : ∀ (xs : List Th) (x : Th) (d : Nat) (L : Int), isTl (xs ++ [x]) d L = ((isTl xs d L).1 ++ [(isT x d (isTl xs d L).2).1], (isT x d (isTl xs d L).2).2)
  | [], x, d, L => by rw [List.nil_append, isTl_cons, isTl_nil, isTl_nil]; rfl
  | y :: xs, x, d, L => by rw [List.cons_append, isTl_cons, isTl_snoc xs, isTl_cons]; rfl
theorem isTl_len : ∀ (xs : List Th) (d : Nat) (L : Int), (isTl xs d L).1.length = xs.length
  | [], d, L => by rw [isTl_nil]; rfl
  | y :: xs, d, L => by rw [isTl_cons, List.length_cons, List.length_cons, isTl_len xs]
/-- no list -/
inductive Leaf (H : Hp) : V → Prop where
  | non : Leaf H .non
  | bl (b : Bool) : Leaf H (.bl b)
  | int (i : Int) : Leaf H (.int i)
  | str (x : Str) : Leaf H (.str x)
  | tup {a : Addr} {xs : List V} (e : H a = some (.tup xs)) : Leaf H (.ref a)
  | dK {a : Addr} {kvs : List (Key × V)} (e : H a = some (.dK kvs)) : Leaf H (.ref a)
theorem Leaf.same {H H' : Hp} {v : V} (s : Same H H') (h : Leaf H v) : Leaf H' v := by
  cases h with
  | non => exact .non
  | bl b => exact .bl b
  | int i => exact .int i
  | str x => exact .str x
  | tup e => exact .tup (s _ _ e)
  | dK e => exact .dK (s _ _ e)
theorem Leaf.isi {K : PySem.W.Frag} {H : Hp} {v : V} (h : Leaf H v) : ∃ t, TyX K H v t ∧ PySem.W.kitOne K t (.type "list") = some false := by
  cases h with
  | non => exact ⟨_, .base .non, kit_ty (by decide +kernel)⟩
  | bl b => exact ⟨_, .base (.bl b), kit_ty (by decide +kernel)⟩
  | int i => exact ⟨_, .base (.int i), kit_ty (by decide +kernel)⟩
  | str x => exact ⟨_, .base (.str x), kit_ty (by decide +kernel)⟩
  | tup e => exact ⟨_, .base (.tup e), kit_ty (by decide +kernel)⟩
  | dK e => exact ⟨_, .base (.dK e), kit_ty (by decide +kernel)⟩
theorem list_isi {K : PySem.W.Frag} {H : Hp} {a : Addr} {xs : List V} (h : H a = some (.lst xs)) : TyX K H (.ref a) (.type "list") ∧ PySem.W.kitOne K (.type "list") (.type "list") = some true :=
  ⟨.base (.lst h), kit_ty (by decide +kernel)⟩
mutual
def ThAt (H : Hp) : V → Th → Prop
  | v, .no => Leaf H v
  | v, .li bs => ∃ a vs, v = .ref a ∧ H a = some (.lst vs) ∧ ThsAt H vs bs
def ThsAt (H : Hp) : List V → List Th → Prop
  | vs, [] => vs = []
  | vs, b :: bs => ∃ v vs', vs = v :: vs' ∧ ThAt H v b ∧ ThsAt H vs' bs
end
theorem thAt_no {H : Hp} {v : V} : ThAt H v .no = Leaf H v := by rw [ThAt]
theorem thAt_li {H : Hp} {v : V} {bs : List Th} : ThAt H v (.li bs) = ∃ a vs, v = .ref a ∧ H a = some (.lst vs) ∧ ThsAt H vs bs := by rw [ThAt]
theorem thsAt_nil {H : Hp} {vs : List V} : ThsAt H vs [] = (vs = []) := by rw [ThsAt]
theorem thsAt_cons {H : Hp} {vs : List V} {b : Th} {bs : List Th} : ThsAt H vs (b :: bs) = ∃ v vs', vs = v :: vs' ∧ ThAt H v b ∧ ThsAt H vs' bs := by rw [ThsAt]
mutual
theorem ThAt.same {H H' : Hp} (s : Same H H') : ∀ {v : V} (t : Th), ThAt H v t → ThAt H' v t
  | v, .no, h => by rw [thAt_no] at h ⊢; exact h.same s
  | v, .li bs, h => by
    rw [thAt_li] at h ⊢
    obtain ⟨a, vs, e, h1, h2⟩ := h
    exact ⟨a, vs, e, s _ _ h1, ThsAt.same s bs h2⟩
theorem ThsAt.same {H H' : Hp} (s : Same H H') : ∀ {vs : List V} (ts : List Th), ThsAt H vs ts → ThsAt H' vs ts
  | vs, [], h => by rw [thsAt_nil] at h ⊢; exact h
  | vs, b :: bs, h => by
    rw [thsAt_cons] at h ⊢
    obtain ⟨v, vs', e, h1, h2⟩ := h
    exact ⟨v, vs', e, ThAt.same s b h1, ThsAt.same s bs h2⟩
end
theorem ThsAt.len {H : Hp} : ∀ {vs : List V} {ts : List Th}, ThsAt H vs ts → vs.length = ts.length
  | vs, [], h => by rw [thsAt_nil] at h; rw [h]; rfl
  | vs, b :: bs, h => by
    rw [thsAt_cons] at h
    obtain ⟨v, vs', e, _, h2⟩ := h
    rw [e, List.length_cons, List.length_cons, ThsAt.len h2]
theorem ThsAt.get {H : Hp} : ∀ {vs : List V} {ts : List Th} {i : Nat} {v : V}, ThsAt H vs ts → vs[i]? = some v → ∃ t, ts[i]? = some t ∧ ThAt H v t
  | vs, [], i, v, h, e => by rw [thsAt_nil] at h; rw [h] at e; cases e
  | vs, b :: bs, i, v, h, e => by
    rw [thsAt_cons] at h
    obtain ⟨w, vs', ev, h1, h2⟩ := h
    subst ev
    cases i with
    | zero =>
      have e' : w = v := Option.some.inj (by simpa using e)
      exact ⟨b, rfl, e' ▸ h1⟩
    | succ i =>
      obtain ⟨t, e1, h3⟩ := ThsAt.get h2 (i := i) (v := v) (by simpa using e)
      exact ⟨t, by simpa using e1, h3⟩
mutual
def toTh : Tt → Th
  | .mk l => .li (toThL l)
def toThL : List Tt → List Th
  | [] => []
  | x :: l => toTh x :: toThL l
end
mutual
theorem TreeAt.th {H : Hp} : ∀ {v : V} (t : Tt), TreeAt H v t → ThAt H v (toTh t)
  | v, .mk bs, h => by
    rw [treeAt_mk] at h
    obtain ⟨a, vs, e, h1, h2⟩ := h
    rw [toTh, thAt_li]
    exact ⟨a, vs, e, h1, TreesAt.th bs h2⟩
theorem TreesAt.th {H : Hp} : ∀ {vs : List V} (ts : List Tt), TreesAt H vs ts → ThsAt H vs (toThL ts)
  | vs, [], h => by rw [treesAt_nil] at h; rw [toThL, thsAt_nil]; exact h
  | vs, b :: bs, h => by
    rw [treesAt_cons] at h
    obtain ⟨v, vs', e, h1, h2⟩ := h
    rw [toThL, thsAt_cons]
    exact ⟨v, vs', e, TreeAt.th b h1, TreesAt.th bs h2⟩
end
theorem knots_pos (t : Tt) : 1 ≤ knots t := by cases t with | mk l => rw [knots]; omega
theorem depth_mk_le {l : List Tt} {d n : Nat} (h : depth (.mk l) + d ≤ n) : ∀ x, x ∈ l → depth x + (d + 1) ≤ n := fun x hx => by
  rw [depth] at h
  have : ∀ {l : List Tt} {x : Tt}, x ∈ l → depth x + 1 ≤ depthL l := by
    intro l
    induction l with
    | nil => intro x h; cases h
    | cons y l ih =>
      intro x h
      rw [depthL]
      rcases List.mem_cons.mp h with e | h
      · rw [e]; omega
      · have := ih h; omega
  have := this hx
  omega
mutual
theorem isT_tree : ∀ (t : Tt) (d : Nat) (L : Int), depth t + d ≤ 40 → (knots t : Int) ≤ L → isT (toTh t) d L = (true, L - knots t)
  | .mk l, d, L, hd, hk => by
    have hk' : ((1 + knotsL l : Nat) : Int) ≤ L := by rw [knots] at hk; exact hk
    have ih := isT_trees l (d + 1) (L - 1) (depth_mk_le hd) (by omega)
    rw [toTh, isT_li, if_neg (by omega), ih, knots]
    refine Prod.ext ?_ ?_
    · show (List.replicate l.length true).all id = true
      simp
    · show L - 1 - (knotsL l : Int) = L - ((1 + knotsL l : Nat) : Int)
      omega
theorem isT_trees : ∀ (l : List Tt) (d : Nat) (L : Int), (∀ x, x ∈ l → depth x + d ≤ 40) → (knotsL l : Int) ≤ L → isTl (toThL l) d L = (List.replicate l.length true, L - knotsL l)
  | [], d, L, _, _ => by rw [toThL, isTl_nil, knotsL]; simp
  | x :: l, d, L, hd, hk => by
    have hk' : ((knots x + knotsL l : Nat) : Int) ≤ L := by rw [knotsL] at hk; exact hk
    rw [toThL, isTl_cons, isT_tree x d L (hd x List.mem_cons_self) (by omega), isT_trees l d (L - knots x) (fun y hy => hd y (List.mem_cons_of_mem _ hy)) (by omega), knotsL]
    refine Prod.ext (by simp [List.replicate_succ]) ?_
    show L - (knots x : Int) - (knotsL l : Int) = L - ((knots x + knotsL l : Nat) : Int)
    omega
end
mutual
def fitTh : Th → Prop
  | .no => True
  | .li l => l.length ≤ lim ∧ fitThL l
def fitThL : List Th → Prop
  | [] => True
  | x :: l => fitTh x ∧ fitThL l
end
theorem fitTh_li {l : List Th} : fitTh (.li l) = (l.length ≤ lim ∧ fitThL l) := by rw [fitTh]
theorem fitThL_mem : ∀ {l : List Th}, fitThL l → ∀ x, x ∈ l → fitTh x
  | [], _, x, h => by cases h
  | y :: l, k, x, h => by
    rw [fitThL] at k
    rcases List.mem_cons.mp h with e | h
    · rw [e]; exact k.1
    · exact fitThL_mem k.2 x h
theorem toThL_len : ∀ l : List Tt, (toThL l).length = l.length
  | [] => by rw [toThL]; rfl
  | x :: l => by rw [toThL, List.length_cons, List.length_cons, toThL_len l]
mutual
theorem fit_toTh : ∀ t : Tt, fit t → fitTh (toTh t)
  | .mk l, h => by rw [fit_mk] at h; rw [toTh, fitTh_li, toThL_len]; exact ⟨h.1, fit_toThL l h.2⟩
theorem fit_toThL : ∀ l : List Tt, fitL l → fitThL (toThL l)
  | [], _ => by rw [toThL, fitThL]; trivial
  | x :: l, h => by rw [fitL] at h; rw [toThL, fitThL]; exact ⟨fit_toTh x h.1, fit_toThL l h.2⟩
end
theorem knotsL_len : ∀ l : List Tt, l.length ≤ knotsL l
  | [] => by simp [knotsL]
  | x :: l => by rw [knotsL, List.length_cons]; have := knotsL_len l; have := knots_pos x; omega
theorem knotsL_mem : ∀ {l : List Tt} {x : Tt}, x ∈ l → knots x ≤ knotsL l
  | y :: l, x, h => by
    rw [knotsL]
    rcases List.mem_cons.mp h with e | h
    · rw [e]; omega
    · have := knotsL_mem h; omega
theorem fit_of_knots {n : Nat} (hn : n ≤ lim) : ∀ (t : Tt), knots t ≤ n → fit t := by
  intro t
  induction t using Tt.ind with
  | h l ih =>
    intro h
    rw [knots] at h
    rw [fit_mk]
    have := knotsL_len l
    refine ⟨by omega, fitL_iff.mpr fun x hx => ih x hx ?_⟩
    have := knotsL_mem hx
    omega
/-- a tree to be asked with -/
def okT (t : Tt) : Prop := knots t ≤ 300 ∧ depth t ≤ 40
theorem okT.fit {t : Tt} (h : okT t) : fit t := fit_of_knots (n := 300) (by decide) t h.1
theorem okT.dp {t : Tt} (h : okT t) : depth t < 41 := Nat.lt_succ_of_le h.2
/-- no tree to be asked with -/
def Bad (H : Hp) (v : V) : Prop := ∃ th, ThAt H v th ∧ fitTh th ∧ (isT th 0 300).1 = false
theorem Bad.same {H H' : Hp} {v : V} (s : Same H H') (h : Bad H v) : Bad H' v := let ⟨th, a, b, c⟩ := h; ⟨th, ThAt.same s th a, b, c⟩
end Hg
/-! Trees as data: == of trees. -/
namespace Hg
open PySem L2
mutual
def toD : Tt → PyData
  | .mk l => .list (toDL l)
def toDL : List Tt → List PyData
  | [] => []
  | x :: l => toD x :: toDL l
end
theorem toD_mk (l : List Tt) : toD (.mk l) = .list (toDL l) := by rw [toD]
mutual
theorem TreeAt.dp {K : PySem.W.Frag} {H : Hp} : ∀ {v : V} (t : Tt), TreeAt H v t → Dp K H v (toD t)
  | v, .mk bs, h => by
    rw [treeAt_mk] at h
    obtain ⟨a, vs, e, h1, h2⟩ := h
    subst e
    rw [toD]
    exact .lst (SqL.of h1) (TreesAt.dp bs h2)
theorem TreesAt.dp {K : PySem.W.Frag} {H : Hp} : ∀ {vs : List V} (ts : List Tt), TreesAt H vs ts → DpAll K H vs (toDL ts)
  | vs, [], h => by rw [treesAt_nil] at h; subst h; rw [toDL]; exact .nil
  | vs, b :: bs, h => by
    rw [treesAt_cons] at h
    obtain ⟨v, vs', e, h1, h2⟩ := h
    subst e
    rw [toDL]
    exact .cons (TreeAt.dp b h1) (TreesAt.dp bs h2)
end
mutual
theorem toD_lay : ∀ t : Tt, (toD t).canLay0 = true
  | .mk l => by rw [toD, PyData.canLay0]; exact toDL_lay l
theorem toDL_lay : ∀ l : List Tt, PyData.canLayAll0 (toDL l) = true
  | [] => by rw [toDL, PyData.canLayAll0]
  | x :: l => by rw [toDL, PyData.canLayAll0, toD_lay x, toDL_lay l]; rfl
end
mutual
theorem toD_depth : ∀ t : Tt, (toD t).depth = depth t + 1
  | .mk l => by rw [toD, PyData.depth, toDL_depth l, depth]
theorem toDL_depth : ∀ l : List Tt, PyData.depthAll (toDL l) = depthL l
  | [] => by rw [toDL, PyData.depthAll, depthL]
  | x :: l => by rw [toDL, PyData.depthAll, toD_depth x, toDL_depth l, depthL]
end
theorem shaped_tree {t : Tt} (h : depth t ≤ 63) : SeqAt.shaped (toD t) = true := by
  show ((toD t).canLay0 && decide ((toD t).depth ≤ 64)) = true
  rw [toD_lay, toD_depth, Bool.true_and]
  exact decide_eq_true (by omega)
mutual
theorem eqv_tree : ∀ t s : Tt, PyData.eqv (toD t) (toD s) = true ↔ t = s
  | .mk l, .mk m => by
    rw [toD, toD, PyData.eqv]
    rw [eqv_trees l m]
    constructor
    · intro e; rw [e]
    · intro e; injection e
theorem eqv_trees : ∀ l m : List Tt, PyData.eqvAll (toDL l) (toDL m) = true ↔ l = m
  | [], [] => by simp [toDL, PyData.eqvAll]
  | [], y :: m => by simp [toDL, PyData.eqvAll]
  | x :: l, [] => by simp [toDL, PyData.eqvAll]
  | x :: l, y :: m => by
    rw [toDL, toDL, PyData.eqvAll, Bool.and_eq_true, eqv_tree x y, eqv_trees l m]
    constructor
    · rintro ⟨e1, e2⟩; rw [e1, e2]
    · intro e; injection e with e1 e2; exact ⟨e1, e2⟩
end
instance : DecidableEq Tt := fun a b => decidable_of_iff (PyData.eqv (toD a) (toD b) = true) (eqv_tree a b)
theorem eqv_dec (t s : Tt) : PyData.eqv (toD t) (toD s) = decide (t = s) := by
  by_cases h : t = s
  · rw [decide_eq_true h]; exact (eqv_tree t s).mpr h
  · rw [decide_eq_false h]
    exact Bool.eq_false_iff.mpr fun e => h ((eqv_tree t s).mp e)
/-- == of two trees -/
theorem eq_trees {K : PySem.W.Frag} {H : Hp} {v u : V} {t s : Tt} {Q : VK} (h1 : TreeAt H v t) (h2 : TreeAt H u s) (d1 : depth t ≤ 63) (d2 : depth s ≤ 63) (q : Q (.bl (decide (t = s))) H) : rEqD K v u H Q :=
  ⟨_, _, TreeAt.dp t h1, TreeAt.dp s h2, shaped_tree d1, shaped_tree d2, by rw [eqv_dec]; exact q⟩
theorem ne_trees {K : PySem.W.Frag} {H : Hp} {v u : V} {t s : Tt} {Q : VK} (h1 : TreeAt H v t) (h2 : TreeAt H u s) (d1 : depth t ≤ 63) (d2 : depth s ≤ 63) (q : Q (.bl (!decide (t = s))) H) : rNeD K v u H Q :=
  ⟨_, _, TreeAt.dp t h1, TreeAt.dp s h2, shaped_tree d1, shaped_tree d2, by rw [eqv_dec]; exact q⟩
theorem nil_tree {H : Hp} {p : Addr} (h : H p = some (.lst [])) : TreeAt H (.ref p) (.mk []) := by rw [treeAt_mk]; exact ⟨p, [], rfl, h, by rw [treesAt_nil]⟩
end Hg
/-! Lists of whole numbers as data. -/
namespace Hg
open PySem L2
theorem dpInts {K : PySem.W.Frag} {H : Hp} : ∀ ns : List Int, DpAll K H (ns.map V.int) (ns.map PyData.int)
  | [] => .nil
  | n :: ns => .cons (.int n) (dpInts ns)
theorem intsLay : ∀ ns : List Int, PyData.canLayAll0 (ns.map PyData.int) = true
  | [] => by rw [List.map_nil, PyData.canLayAll0]
  | n :: ns => by rw [List.map_cons, PyData.canLayAll0, PyData.canLay0, intsLay ns]; rfl
theorem intsDepth : ∀ ns : List Int, PyData.depthAll (ns.map PyData.int) = 0
  | [] => by rw [List.map_nil, PyData.depthAll]
  | n :: ns => by rw [List.map_cons, PyData.depthAll, PyData.depth, intsDepth ns]; rfl
theorem intsShaped (ns : List Int) : SeqAt.shaped (.list (ns.map PyData.int)) = true := by
  show (PyData.canLay0 (.list (ns.map PyData.int)) && decide (PyData.depth (.list (ns.map PyData.int)) ≤ 64)) = true
  rw [PyData.canLay0, PyData.depth, intsLay, intsDepth]
  rfl
theorem intsEqv : ∀ ns ms : List Int, PyData.eqvAll (ns.map PyData.int) (ms.map PyData.int) = decide (ns = ms)
  | [], [] => by simp [PyData.eqvAll]
  | [], m :: ms => by simp [PyData.eqvAll]
  | n :: ns, [] => by simp [PyData.eqvAll]
  | n :: ns, m :: ms => by
    rw [List.map_cons, List.map_cons, PyData.eqvAll, PyData.eqv, intsEqv ns ms]
    by_cases h : n = m
    · subst h; simp
    · simp [h]
/-- == and != of two lists of ints -/
theorem eq_ints {K : PySem.W.Frag} {H : Hp} {a b : Addr} {ns ms : List Int} {Q : VK} (h1 : SqL K H a (ns.map V.int)) (h2 : SqL K H b (ms.map V.int)) (q : Q (.bl (decide (ns = ms))) H) : rEqD K (.ref a) (.ref b) H Q :=
  ⟨_, _, .lst h1 (dpInts ns), .lst h2 (dpInts ms), intsShaped ns, intsShaped ms, by rw [PyData.eqv, intsEqv]; exact q⟩
theorem ne_ints {K : PySem.W.Frag} {H : Hp} {a b : Addr} {ns ms : List Int} {Q : VK} (h1 : SqL K H a (ns.map V.int)) (h2 : SqL K H b (ms.map V.int)) (q : Q (.bl (!decide (ns = ms))) H) : rNeD K (.ref a) (.ref b) H Q :=
  ⟨_, _, .lst h1 (dpInts ns), .lst h2 (dpInts ms), intsShaped ns, intsShaped ms, by rw [PyData.eqv, intsEqv]; exact q⟩
end Hg
/-! A tree in the heap that gets one more branch; bits of numbers. -/
namespace Hg
open PySem L2
theorem knotsL_append : ∀ l m : List Tt, knotsL (l ++ m) = knotsL l + knotsL m
  | [], m => by rw [List.nil_append, knotsL]; omega
  | x :: l, m => by rw [List.cons_append, knotsL, knotsL, knotsL_append l m]; omega
theorem depthL_append : ∀ l m : List Tt, depthL (l ++ m) = max (depthL l) (depthL m)
  | [], m => by rw [List.nil_append, depthL]; omega
  | x :: l, m => by rw [List.cons_append, depthL, depthL, depthL_append l m]; omega
theorem Owns.splitV {H : Hp} : ∀ {v1 v2 : List V} {ts : List Tt} {as : List Addr}, Owns H (v1 ++ v2) ts as → ∃ t1 t2 a1 a2, ts = t1 ++ t2 ∧ as = a1 ++ a2 ∧ Owns H v1 t1 a1 ∧ Owns H v2 t2 a2
  | [], v2, ts, as, h => ⟨[], ts, [], as, rfl, rfl, by rw [owns_nil]; exact ⟨rfl, rfl⟩, h⟩
  | v :: v1, v2, [], as, h => by rw [owns_nil] at h; cases h.1
  | v :: v1, v2, t :: ts, as, h => by
    rw [owns_cons] at h
    obtain ⟨v', vs', a1, a2, e, rfl, o1, o2⟩ := h
    rw [List.cons_append] at e
    injection e with e1 e2
    subst e1 e2
    obtain ⟨t1, t2, b1, b2, rfl, rfl, k1, k2⟩ := Owns.splitV o2
    exact ⟨t :: t1, t2, a1 ++ b1, b2, rfl, (List.append_assoc _ _ _).symm, by rw [owns_cons]; exact ⟨v, v1, a1, b1, rfl, rfl, o1, k1⟩, k2⟩
section
variable {H H' : Hp} {a p : Addr} {l r : List V}
mutual
theorem Own.graft (hk : ∀ b, b ≠ a → ∀ o, H b = some o → H' b = some o) (ha : H a = some (.lst (l ++ r))) (ha' : H' a = some (.lst (l ++ .ref p :: r))) (hp : H' p = some (.lst [])) :
    ∀ {v : V} (t : Tt) {as : List Addr}, Own H v t as → as.Nodup → a ∈ as → ∃ t' as', Own H' v t' as' ∧ as'.Perm (p :: as) ∧ knots t' = knots t + 1 ∧ depth t' ≤ depth t + 1
  | v, .mk bs, as, h, nd, hm => by
    rw [own_mk] at h
    obtain ⟨b, vs, as', rfl, rfl, hb, ow⟩ := h
    obtain ⟨nb, nd'⟩ := List.nodup_cons.mp nd
    by_cases e : b = a
    · subst e
      rw [hb] at ha
      injection ha with ha
      injection ha with ha
      subst ha
      obtain ⟨t1, t2, a1, a2, rfl, rfl, o1, o2⟩ := ow.splitV
      refine ⟨.mk (t1 ++ .mk [] :: t2), b :: (a1 ++ (p :: a2)), ?_, ?_, ?_, ?_⟩
      · rw [own_mk]
        refine ⟨b, _, _, rfl, rfl, ha', Owns.append (Owns.frame _ o1 fun c hc o q => hk c (fun z => nb (by rw [← z]; exact List.mem_append_left _ hc)) o q) ?_⟩
        rw [owns_cons]
        refine ⟨.ref p, r, [p], a2, rfl, rfl, ?_, Owns.frame _ o2 fun c hc o q => hk c (fun z => nb (by rw [← z]; exact List.mem_append_right _ hc)) o q⟩
        rw [own_mk]
        exact ⟨p, [], [], rfl, rfl, hp, by rw [owns_nil]; exact ⟨rfl, rfl⟩⟩
      · refine (List.Perm.cons b (List.perm_middle (l₁ := a1) (a := p) (l₂ := a2))).trans (List.Perm.swap p b _)
      · rw [knots, knots, knotsL_append, knotsL_append, knotsL, knots, knotsL]; omega
      · rw [depth, depth, depthL_append, depthL_append, depthL, depth, depthL]; omega
    · have hm' : a ∈ as' := by
        rcases List.mem_cons.mp hm with z | z
        · exact absurd z.symm e
        · exact z
      obtain ⟨ts', as2, o, pm, k, d⟩ := Owns.graft hk ha ha' hp bs ow nd' hm'
      refine ⟨.mk ts', b :: as2, ?_, (pm.cons b).trans (List.Perm.swap p b _), ?_, ?_⟩
      · rw [own_mk]; exact ⟨b, vs, as2, rfl, rfl, hk b e _ hb, o⟩
      · rw [knots, knots, k]; omega
      · rw [depth, depth]; exact d
theorem Owns.graft (hk : ∀ b, b ≠ a → ∀ o, H b = some o → H' b = some o) (ha : H a = some (.lst (l ++ r))) (ha' : H' a = some (.lst (l ++ .ref p :: r))) (hp : H' p = some (.lst [])) :
    ∀ {vs : List V} (ts : List Tt) {as : List Addr}, Owns H vs ts as → as.Nodup → a ∈ as → ∃ ts' as', Owns H' vs ts' as' ∧ as'.Perm (p :: as) ∧ knotsL ts' = knotsL ts + 1 ∧ depthL ts' ≤ depthL ts + 1
  | vs, [], as, h, nd, hm => by rw [owns_nil] at h; rw [h.2] at hm; cases hm
  | vs, b :: bs, as, h, nd, hm => by
    rw [owns_cons] at h
    obtain ⟨v, vs', a1, a2, rfl, rfl, o1, o2⟩ := h
    obtain ⟨n1, n2, dis⟩ := List.nodup_append.mp nd
    by_cases hm1 : a ∈ a1
    · obtain ⟨t', as1, o, pm, k, d⟩ := Own.graft hk ha ha' hp b o1 n1 hm1
      refine ⟨t' :: bs, as1 ++ a2, ?_, (pm.append_right a2), ?_, ?_⟩
      · rw [owns_cons]
        exact ⟨v, vs', as1, a2, rfl, rfl, o, Owns.frame _ o2 fun c hc u q => hk c (fun z => dis a hm1 c hc z.symm) u q⟩
      · rw [knotsL, knotsL, k]; omega
      · rw [depthL, depthL]; omega
    · have hm2 : a ∈ a2 := by
        rcases List.mem_append.mp hm with z | z
        · exact absurd z hm1
        · exact z
      obtain ⟨ts', as2, o, pm, k, d⟩ := Owns.graft hk ha ha' hp bs o2 n2 hm2
      refine ⟨b :: ts', a1 ++ as2, ?_, ?_, ?_, ?_⟩
      · rw [owns_cons]
        exact ⟨v, vs', a1, as2, rfl, rfl, Own.frame _ o1 fun c hc u q => hk c (fun z => dis c hc a hm2 z) u q, o⟩
      · exact (pm.append_left a1).trans List.perm_middle
      · rw [knotsL, knotsL, k]; omega
      · rw [depthL, depthL]; omega
end
end
/-- fewer than k bits -/
def Bits (i : Int) (k : Nat) : Prop := i.natAbs < 2 ^ k
theorem Bits.mono {i : Int} {a b : Nat} (h : Bits i a) (l : a ≤ b) : Bits i b := Nat.lt_of_lt_of_le h (Nat.pow_le_pow_right (by decide) l)
theorem Bits.add {i j : Int} {a : Nat} (h : Bits i a) (k : Bits j a) : Bits (i + j) (a + 1) := by
  unfold Bits at *
  have := Int.natAbs_add_le i j
  rw [Nat.pow_succ]
  omega
theorem Bits.mul {i j : Int} {a b : Nat} (h : Bits i a) (k : Bits j b) : Bits (i * j) (a + b) := by
  unfold Bits at *
  rw [Int.natAbs_mul, Nat.pow_add]
  exact Nat.mul_lt_mul'' h k
theorem Bits.le {i j : Int} {a : Nat} (h : Bits j a) (l : i.natAbs ≤ j.natAbs) : Bits i a := Nat.lt_of_le_of_lt l h
theorem Bits.div {i j : Int} {a : Nat} (h : Bits i a) : Bits (i / j) a := h.le (Int.natAbs_ediv_le_natAbs i j)
theorem Bits.lt {i : Int} {n a : Nat} (h0 : 0 ≤ i) (h : i < n) (hn : n ≤ 2 ^ a) : Bits i a := by
  unfold Bits
  omega
theorem Bits.mulX {i j : Int} {a b : Nat} (h : Bits i a) (k : Bits j b) (l : a + b < 100000000) : CMulX i j := Hg.mulX h k l
theorem Bits.of_bits {i : Int} {k : Nat} (h : Builtin.Int.intBits i ≤ k) : Bits i k := by
  unfold Bits
  unfold Builtin.Int.intBits at h
  by_cases h0 : i = 0
  · subst h0
    exact Nat.pos_of_neZero (2 ^ k)
  · have h1 : (i == 0) = false := by simpa using h0
    rw [h1, if_neg Bool.false_ne_true] at h
    have h2 : i.natAbs ≠ 0 := by omega
    exact Nat.lt_of_lt_of_le ((Nat.log2_lt h2).mp (Nat.lt_succ_self _)) (Nat.pow_le_pow_right (by decide) h)
end Hg
/-! Written trees. -/
namespace Hg
open PySem L2
def LitE (te : TE) (t : Tt) : Prop := ∀ (σ : St) (H : Hp) (Q : VK), (∀ H' v, Same H H' → TreeAt H' v t → Q v H') → te σ H Q
def LitA (ta : TA) (ts : List Tt) : Prop := ∀ (σ : St) (H : Hp) (Q : List V → Hp → Prop), (∀ H' vs, Same H H' → TreesAt H' vs ts → Q vs H') → ta σ H Q
theorem lit_nil : LitA tNil [] := fun σ H Q h => h H [] (Same.refl H) (by rw [treesAt_nil])
theorem treesAt_c {H : Hp} {v : V} {vs : List V} {t : Tt} {ts : List Tt} (h : TreeAt H v t) (k : TreesAt H vs ts) : TreesAt H (v :: vs) (t :: ts) := by
  rw [treesAt_cons]; exact ⟨v, vs, rfl, h, k⟩
theorem lit_cons {te : TE} {ta : TA} {t : Tt} {ts : List Tt} (h : LitE te t) (k : LitA ta ts) : LitA (tCons te ta) (t :: ts) := fun σ H Q q =>
  h σ H _ fun H1 v s1 h1 => k σ H1 _ fun H2 vs s2 h2 => q H2 (v :: vs) (s1.trans s2) (treesAt_c (TreeAt.same s2 t h1) h2)
theorem lit_lst {ta : TA} {ts : List Tt} (k : LitA ta ts) (hl : ts.length ≤ lim := by decide) : LitE (tLst ta) (.mk ts) := fun σ H Q q =>
  k σ H _ fun H1 vs s1 h1 => ⟨Nat.le_of_lt (lim_line (by rw [h1.len]; exact hl)), fun p np => q _ _ (s1.trans (same_new np _)) (by
    rw [treeAt_mk]; exact ⟨p, vs, rfl, upd_same, TreesAt.same (same_new np _) ts h1⟩)⟩
theorem lit0 : LitE (tLst tNil) (.mk []) := lit_lst lit_nil
end Hg
/-! any(list of truths) while an exception is handled (its context None); defs that raise, by L2N. -/
namespace Hg
open PySem PySem.Spec PyProof.Rows L2
theorem pyNext_list_end_hot {prog : Program} {w : World} {A : Around} {E : Value → Shared → Prop} {s : Shared} {it l x1 : Addr} {i : Nat} {items : Array Value} {Q : Option Value → Shared → Prop} (hot : HotX.HotAt A x1 s.heap)
    (hit : s.heap.IsListIter it l i) (hl : s.heap.IsList l items) (hx : items[i]? = none) (hne : x1 ≠ it)
    (hQ : ∀ h', (∀ b o, b ≠ it → s.heap.get? b = some o → h'.get? b = some o) → Q none { s with heap := h' }) : wpAny (model prog w) A (pyNext (.ref it)) Q E s := by
  obtain ⟨hh, o1, vs1, h1, d1, c1⟩ := hot
  obtain ⟨o, ho, hc, hd⟩ := id hit
  obtain ⟨ol, hol, _, nl, hdl⟩ := hl
  unfold pyNext
  refine wpAny_bind (wpAny_attempt (wpAny_callSpecial?_slot (name := Str.ofString "__next__") hit.typeIs slot_listiter_next
    (wpAny_call_entry slot_listiter_next hit.typeIs entry_listiter_next ?_ (args_listiter_next _))))
  show wpAny _ _ (field (.ref it) 0 >>= _) _ _ s
  refine wpAny_bind (wpAny_field ho hd (x := .ref l) rfl ?_)
  show wpAny _ _ (if (Value.ref l == Value.none) = true then _ else _) _ _ s
  rw [if_neg (show ¬ ((Value.ref l == Value.none) = true) from Bool.false_ne_true)]
  show wpAny _ _ (field (.ref it) 1 >>= _) _ _ s
  refine wpAny_bind (wpAny_field ho hd (x := .int i 0) rfl ?_)
  show wpAny _ _ (seqItems? (.ref l) >>= _) _ _ s
  refine wpAny_bind (wpAny_seqItems hol hdl ?_)
  simp only [Int.toNat_natCast, hx]
  refine wpAny_bind (wpAny_rule (wpAny_bind (wpAny_setField ho hd (by simp) ?_)))
  show wpAny _ _ (newExc (.type "StopIteration") [] >>= _) _ _ _
  refine wpAny_bind ?_
  simp only [newExc, newTuple]
  refine wpAny_bind (wpAny_newObj_type ?_ (by size_fits))
  refine wpAny_bind (m := firstArgMember _ _) (wpAny_of_eq (a := Value.none) (by first | rfl | (simp only [firstArgMember]; rfl)) ?_)
  refine wpAny_newObj_type ?_ (by size_fits)
  have k1 : ∀ (b : Addr) (o' : Obj), b ≠ it → s.heap.get? b = some o' → (s.heap.update it (Obj.mapFields (·.setIfInBounds 0 Value.none))).get? b = some o' := fun b o' hb e => by
    rw [Heap.get?_update_other _ _ (Ne.symm hb)]; exact e
  have h1' := k1 x1 o1 hne h1
  refine HotX.raiseNew_hot ⟨hh, o1, vs1, Heap.get?_push_of_some _ (Heap.get?_push_of_some _ h1'), d1, c1⟩ (Nat.ne_of_lt (Heap.lt_size (Heap.get?_push_of_some _ h1'))) (Heap.get?_push_size _ rfl) rfl (by first | (simp; done) | (simp; omega) | (simp only [Array.size_append]; simp; omega)) ?_
  refine wpAny_bind (wpAny_isInstance (T := "StopIteration") (b := true) ⟨_, Heap.get?_update_self _ (Heap.get?_push_size _ rfl) rfl, rfl⟩ isSubtype_stop ?_)
  refine wpAny_pure (hQ _ fun b o' hb e => ?_)
  rw [Heap.get?_update_other _ _ (Nat.ne_of_gt (Heap.lt_size (Heap.get?_push_of_some _ (k1 b o' hb e))))]
  exact Heap.get?_push_of_some _ (Heap.get?_push_of_some _ (k1 b o' hb e))
end Hg
namespace Hg
open PySem PySem.Spec PyProof.Rows L2
/-- a list walked while x1 is handled, whose context is None -/
theorem walks_hot {prog : Program} {w : World} {A : Around} {x1 : Addr} (hh : A.handled = some (.ref x1)) (I ax : Addr) (hne : ax ≠ I) (hx : x1 ≠ I) (items : Array Value) :
    Walks prog w A I [I, ax, x1] [I] items.size (fun i v => items[i]? = some v) (fun i h => (h.IsListIter I ax i ∧ h.IsList ax items) ∧ ∃ (o : Obj) (vs : Array Value), h.get? x1 = some o ∧ o.data = .fields vs ∧ vs[2]? = some .none) where
  sub := fun b hb => by simp at hb; simp [hb]
  frame := fun _ _ _ st hk => by
    obtain ⟨⟨s1, s2⟩, o, vs, h1, h2⟩ := st
    exact ⟨⟨s1.at fun o e => hk I (by simp) o e, s2.at fun o e => hk ax (by simp) o e⟩, o, vs, hk x1 (by simp) o h1, h2⟩
  item := fun i s Q E hi st hQ => by
    obtain ⟨st, o, vs, h1, h2⟩ := st
    refine wpAny_pyNext_list_item st.1 st.2 (x := items[i]) (by simp [hi]) fun h' hit' hs' => ?_
    exact hQ _ h' s.toks (by simp [hi]) ⟨⟨hit', st.2.extBut hs'.extBut hne⟩, o, vs, hs'.extBut x1 o hx h1, h2⟩ fun b o hb e => hs'.extBut b o (fun h => hb (by simp [h])) e
  done := fun s Q E st hQ => by
    obtain ⟨st, o, vs, h1, h2⟩ := st
    exact pyNext_list_end_hot ⟨hh, o, vs, h1, h2⟩ st.1 st.2 (by simp) hx fun h' he' => hQ h' s.toks fun b o hb e => he' b o (fun h => hb (by simp [h])) e
  self := fun _ _ _ _ st hQ => wpAny_pyIter_listiter st.1.1 hQ
/-- any(list of truths) within an except suite -/
theorem call_any_hot {X : Cx} {a : Addr} {oe : Obj} {cls : Value} {d : Option Addr} {pn : List (Addr × Obj)} (hz : L2N.Zn cls d oe) (hf : ∃ vs, oe.data = .fields vs) :
    CallR (X.suite a ((a, oe) :: pn)) (.builtin "any") (rAny X.K) := by
  intro pins s σ H vs us Q I r h
  obtain ⟨b, bs, rfl, hs, q⟩ := h
  obtain ⟨its, rv, hl, _⟩ := I.list hs
  rw [Vals.ref1 r]
  have hb := rv.bls
  obtain ⟨hget, _⟩ := I.pin (a, oe) (List.mem_append.mpr (.inl List.mem_cons_self))
  obtain ⟨fs, hfs⟩ := hf
  have hctx := hz.2.2 fs hfs
  have na : a ≠ s.heap.objs.size := Nat.ne_of_lt (Heap.lt_size hget)
  refine call_any_walk (iter_any hl.isList fun s₂ e2 st hne => ?_)
  subst e2
  refine ⟨_, _, _, _, _, _, _, rfl, walks_hot (A := (X.suite a ((a, oe) :: pn)).A.in1) (x1 := a) rfl _ b hne na its.toArray, ⟨st, oe, fs, Heap.get?_push_of_some _ hget, hfs, hctx⟩, truth_bools hb, fun h' tk hk => ?_⟩
  refine ⟨.bl _, H, I.kept fun c o eo => hk c o (fun hmem => ?_) (Heap.get?_push_of_some _ eo), ?_, q⟩
  · rcases List.mem_cons.mp hmem with e1 | hmem
    · exact absurd (e1 ▸ Heap.lt_size eo) (Nat.lt_irrefl _)
    · cases hmem
  · show Value.bool _ = Value.bool _
    rw [← L2.any_range, hb, List.size_toArray, List.length_map]
theorem passLN {X : Cx} : Passes (L2N.CX X.prog X.w) X E0 := fun _ _ _ _ _ _ _ h => by
  obtain ⟨_, _, _, _, _, _, _, _, _, _, _, _, z⟩ := h
  exact z.elim
theorem takesN0 {X : Cx} : L2N.Takes X (fun _ _ _ _ => False) := fun _ _ x => by
  obtain ⟨_, _, _, _, _, _, _, _, _, _, _, _, _, _, _, _, z⟩ := x
  exact z.elim
section
variable {P : Program} {w : World} {K : PySem.W.Frag} {mg : Str → Option Value} {base : Heap}
/-- a def that may raise -/
theorem okN {x qual : Str} {st : Stmt} {f : Addr} {fd : FuncData} {N ps : List Str} {k : Nat} {sp : Sp} (F : Fun K x qual st f fd) (S : FnScope N ps (defScope st)) (len : ∀ vs H Q E, sp vs H Q E → vs.length = ps.length)
    (hbody : ∀ (cdv : Value) (A : Around) (outer : List Env) (s : Shared) (H : Hp) (vs : List V) (Q : VK) (E : XK), Room k (A.deeper (envOfC qual (defScope st) s.heap.objs.size f cdv)) → sp vs H Q E →
      ∃ t, PSs (cxOf (L2N.CX P w) P w K mg base N qual (defScope st) f cdv A outer s H E) (defBody st) t ∧ t { nx := fun _ H' => Q .non H', rt := Q } (start N vs) H) : FnOk P w K mg base (L2N.CX P w) (k + 1) f fd ps sp := by
  obtain ⟨oc, od, kV, doc, pm, an, cdv, ct, osl, rfl, lk, hcd⟩ := F.ex
  exact fn_of lk hcd S len fun A outer s H vs Q E hr hsp => hbody cdv A outer s H vs Q E hr hsp
end
end Hg
/-! isinstance of a caught error whose class is told by what is known; str * int. -/
namespace Hg
open PySem L2
def rIsEx (K : PySem.W.Frag) (a : Addr) (cls : Value) (d : Option Addr) : List V → Hp → VK → Prop := fun xs H Q => ∃ (D : Addr) (c : V) (cv : Value) (b : Bool), cls = .ref D ∧ d = none ∧ ExcC K D ∧ xs = [.ref a, c] ∧ (∀ u, RelV c u → u = cv) ∧ PySem.W.kitOne K (.ref D) cv = some b ∧ Q (.bl b) H
theorem call_isEx {X : Cx} {a : Addr} {oe : Obj} {cls : Value} {d : Option Addr} {pn : List (Addr × Obj)} (hz : L2N.Zn cls d oe) (hf : ∃ vs, oe.data = .fields vs) :
    CallR (X.suite a ((a, oe) :: pn)) (.builtin "isinstance") (rIsEx X.K a cls d) := by
  intro pins s σ H xs us Q I r h
  obtain ⟨D, c, cv, b, rfl, rfl, C, e1, e2, e3, q⟩ := h
  exact call_isE C hz.zc hf pins s σ H xs us Q I r ⟨c, cv, b, e1, e2, e3, q⟩
theorem kit_mk {K : PySem.W.Frag} {D C : Addr} {b : Bool} (i : PySem.W.isClsIn K C = true) (t : PySem.W.typeIn K (.ref C) = some (.type "type")) (s : PySem.W.subIn K (.ref D) (.ref C) = some b) (d : PySem.W.subIn K (.ref D) (.ref D) = some true) : PySem.W.kitOne K (.ref D) (.ref C) = some b := by
  unfold PySem.W.kitOne
  by_cases h : D = C
  · subst h
    rw [d] at s
    rw [if_pos (by simp)]
    exact s
  · rw [if_neg (by simpa using h)]
    unfold PySem.W.kitCls
    unfold PySem.W.isClsIn at i
    have e : ((PySem.W.clsIn K C).isSome && PySem.W.typeIn K (.ref C) == some (.type "type")) = true := by rw [i, t]; rfl
    show (if ((PySem.W.clsIn K C).isSome && PySem.W.typeIn K (.ref C) == some (.type "type")) = true then PySem.W.subIn K (.ref D) (.ref C) else none) = _
    rw [if_pos e]
    exact s
theorem kit_mkT {K : PySem.W.Frag} {D : Addr} {T : String} {b : Bool} (i : PySem.W.kitMeta T = true) (s : PySem.W.subIn K (.ref D) (.type T) = some b) : PySem.W.kitOne K (.ref D) (.type T) = some b := by
  unfold PySem.W.kitOne
  rw [if_neg (by simp)]
  show (if PySem.W.kitMeta T = true then PySem.W.subIn K (.ref D) (.type T) else none) = _
  rw [if_pos i]
  exact s
/-- text * int -/
def rRepS : R2 := fun x y H Q => ∃ z k, x = .str z ∧ y = .int k ∧ MulOk z k ∧ Q (.str (Txt.mul z k)) H
theorem op_repS {X : Cx} : OpR X (binaryOp .Mult) rRepS := by
  intro pins s σ H x y v u Q I rx ry h
  obtain ⟨z, k, rfl, rfl, hok, q⟩ := h
  obtain ⟨t, rfl⟩ := rx
  obtain ⟨t', rfl⟩ := ry
  exact PySem.SB.mul hok fun t' k => ⟨.str _, H, I.tok k, ⟨t', rfl⟩, q⟩
end Hg
/-! Trees as texts of brackets (40, 41). -/
namespace Hg
open PySem L2
mutual
def txt : Tt → List Nat
  | .mk l => txtL l
def txtL : List Tt → List Nat
  | [] => []
  | x :: l => 40 :: (txt x ++ 41 :: txtL l)
end
theorem txt_mk (l : List Tt) : txt (.mk l) = txtL l := by rw [txt]
theorem txtL_nil : txtL [] = [] := by rw [txtL]
theorem txtL_cons (x : Tt) (l : List Tt) : txtL (x :: l) = 40 :: (txt x ++ 41 :: txtL l) := by rw [txtL]
theorem txtL_append : ∀ l m : List Tt, txtL (l ++ m) = txtL l ++ txtL m
  | [], m => by rw [txtL_nil]; rfl
  | x :: l, m => by rw [List.cons_append, txtL_cons, txtL_cons, txtL_append l m]; simp
def brk (l : List Nat) : Prop := ∀ c, c ∈ l → c = 40 ∨ c = 41
mutual
theorem txt_brk : ∀ t : Tt, brk (txt t)
  | .mk l => by rw [txt]; exact txtL_brk l
theorem txtL_brk : ∀ l : List Tt, brk (txtL l)
  | [] => by rw [txtL]; intro c h; cases h
  | x :: l => by
    rw [txtL]
    intro c h
    rcases List.mem_cons.mp h with e | h
    · exact .inl e
    · rcases List.mem_append.mp h with h | h
      · exact txt_brk x c h
      · rcases List.mem_cons.mp h with e | h
        · exact .inr e
        · exact txtL_brk l c h
end
mutual
theorem txt_len : ∀ t : Tt, (txt t).length + 2 = 2 * knots t
  | .mk l => by rw [txt, knots]; have := txtL_len l; omega
theorem txtL_len : ∀ l : List Tt, (txtL l).length = 2 * knotsL l
  | [] => by rw [txtL, knotsL]; rfl
  | x :: l => by
    rw [txtL, knotsL, List.length_cons, List.length_append, List.length_cons]
    have := txt_len x; have := txtL_len l
    omega
end
mutual
theorem txt_count : ∀ t : Tt, (txt t).count 40 + 1 = knots t
  | .mk l => by rw [txt, knots, txtL_count l]; omega
theorem txtL_count : ∀ l : List Tt, (txtL l).count 40 = knotsL l
  | [] => by rw [txtL, knotsL]; rfl
  | x :: l => by
    rw [txtL, knotsL, List.count_cons_self, List.count_append, List.count_cons_of_ne (by decide), txtL_count l]
    have := txt_count x
    omega
end
mutual
theorem depth_knots : ∀ t : Tt, depth t + 1 ≤ knots t
  | .mk l => by rw [depth, knots]; have := depthL_knots l; omega
theorem depthL_knots : ∀ l : List Tt, depthL l ≤ knotsL l
  | [] => by rw [depthL, knotsL]; exact Nat.le_refl _
  | x :: l => by
    rw [depthL, knotsL]
    have := depth_knots x; have := depthL_knots l
    omega
end
/-! ### reading -/
/-- the open ones, the innermost first -/
abbrev Stk := List (List Tt)
def step1 (st : Stk) (c : Nat) : Option Stk :=
  if c = 40 then some ([] :: st) else match st with
    | b :: p :: r => some ((p ++ [.mk b]) :: r)
    | _ => none
def rdS : Stk → List Nat → Option Stk
  | st, [] => some st
  | st, c :: l => (step1 st c).bind fun s => rdS s l
/-- .. never more than 41 open -/
def rdL : Stk → List Nat → Option Stk
  | st, [] => some st
  | st, c :: l => (step1 st c).bind fun s => if 41 < s.length then none else rdL s l
theorem rdS_cons (st : Stk) (c : Nat) (l : List Nat) : rdS st (c :: l) = (step1 st c).bind fun s => rdS s l := rfl
theorem rdL_cons (st : Stk) (c : Nat) (l : List Nat) : rdL st (c :: l) = (step1 st c).bind fun s => if 41 < s.length then none else rdL s l := rfl
theorem rdL_rdS : ∀ (l : List Nat) (st x : Stk), rdL st l = some x → rdS st l = some x
  | [], st, x, h => h
  | c :: l, st, x, h => by
    rw [rdL_cons] at h
    rw [rdS_cons]
    cases e : step1 st c with
    | none => rw [e] at h; cases h
    | some s =>
      rw [e, Option.bind_some] at h
      rw [Option.bind_some]
      by_cases hl : 41 < s.length
      · rw [if_pos hl] at h; cases h
      · rw [if_neg hl] at h; exact rdL_rdS l s x h
theorem rdL_append : ∀ (l m : List Nat) (st : Stk), rdL st (l ++ m) = (rdL st l).bind fun s => rdL s m
  | [], m, st => rfl
  | c :: l, m, st => by
    rw [List.cons_append, rdL_cons, rdL_cons]
    cases step1 st c with
    | none => rfl
    | some s =>
      rw [Option.bind_some, Option.bind_some]
      by_cases hl : 41 < s.length
      · rw [if_pos hl, if_pos hl]; rfl
      · rw [if_neg hl, if_neg hl]; exact rdL_append l m s
theorem rdS_append : ∀ (l m : List Nat) (st : Stk), rdS st (l ++ m) = (rdS st l).bind fun s => rdS s m
  | [], m, st => rfl
  | c :: l, m, st => by
    rw [List.cons_append, rdS_cons, rdS_cons]
    cases step1 st c with
    | none => rfl
    | some s => rw [Option.bind_some, Option.bind_some]; exact rdS_append l m s
/-- what has been read so far -/
def stT : Stk → List Nat
  | [] => []
  | [s] => txtL s
  | s :: t :: r => stT (t :: r) ++ 40 :: txtL s
theorem stT_two (s t : List Tt) (r : Stk) : stT (s :: t :: r) = stT (t :: r) ++ 40 :: txtL s := rfl
theorem step1_txt {st s : Stk} {c : Nat} (hn : st ≠ []) (hc : c = 40 ∨ c = 41) (h : step1 st c = some s) : s ≠ [] ∧ stT s = stT st ++ [c] := by
  unfold step1 at h
  rcases hc with e | e
  · subst e
    rw [if_pos rfl] at h
    cases h
    cases st with
    | nil => exact absurd rfl hn
    | cons a r => exact ⟨by simp, by rw [stT_two, txtL_nil]⟩
  · subst e
    rw [if_neg (by decide)] at h
    cases st with
    | nil => cases h
    | cons b r =>
      cases r with
      | nil => cases h
      | cons p r =>
        cases h
        refine ⟨by simp, ?_⟩
        have ep : txtL (p ++ [.mk b]) = txtL p ++ (40 :: txtL b ++ [41]) := by
          rw [txtL_append, txtL_cons, txtL_nil, txt_mk]; simp
        cases r with
        | nil =>
          show txtL (p ++ [.mk b]) = stT [b, p] ++ [41]
          rw [stT_two, ep]
          show _ = (txtL p ++ 40 :: txtL b) ++ [41]
          simp
        | cons q r =>
          rw [stT_two, stT_two, stT_two, ep]
          simp
theorem rdS_txt : ∀ (l : List Nat) (st s : Stk), st ≠ [] → brk l → rdS st l = some s → s ≠ [] ∧ stT s = stT st ++ l
  | [], st, s, hn, _, h => by cases h; exact ⟨hn, by simp⟩
  | c :: l, st, s, hn, hb, h => by
    rw [rdS_cons] at h
    cases e : step1 st c with
    | none => rw [e] at h; cases h
    | some s1 =>
      rw [e, Option.bind_some] at h
      obtain ⟨h1, h2⟩ := step1_txt hn (hb c List.mem_cons_self) e
      obtain ⟨h3, h4⟩ := rdS_txt l s1 s h1 (fun d hd => hb d (List.mem_cons_of_mem _ hd)) h
      exact ⟨h3, by rw [h4, h2]; simp⟩
/-- a text that is read is the tree's -/
theorem rdS_is {l : List Nat} {t : List Tt} (hb : brk l) (h : rdS [[]] l = some [t]) : l = txtL t := by
  have := (rdS_txt l _ _ (by simp) hb h).2
  show l = stT [t]
  rw [this]
  show l = txtL [] ++ l
  rw [txtL_nil]; rfl
mutual
theorem rdS_tree : ∀ (t : Tt) (s : List Tt) (st : Stk) (r : List Nat), rdS (s :: st) (40 :: (txt t ++ 41 :: r)) = rdS ((s ++ [t]) :: st) r
  | .mk l, s, st, r => by
    rw [rdS_cons]
    show rdS ([] :: s :: st) (txt (.mk l) ++ 41 :: r) = _
    rw [txt_mk, rdS_trees l [] (s :: st) (41 :: r), List.nil_append]
    rfl
theorem rdS_trees : ∀ (l : List Tt) (s : List Tt) (st : Stk) (r : List Nat), rdS (s :: st) (txtL l ++ r) = rdS ((s ++ l) :: st) r
  | [], s, st, r => by rw [txtL_nil, List.append_nil]; rfl
  | x :: l, s, st, r => by
    have e : txtL (x :: l) ++ r = 40 :: (txt x ++ 41 :: (txtL l ++ r)) := by rw [txtL_cons]; simp
    rw [e, rdS_tree x s st, rdS_trees l, List.append_assoc]
    rfl
end
theorem rdS_txtL (l : List Tt) : rdS [[]] (txtL l) = some [l] := by
  have h := rdS_trees l [] [] []
  rw [List.append_nil] at h
  rw [h]; rfl
/-- how deep the end will be at least -/
def W_ : Stk → Nat
  | [] => 0
  | s :: st => max (st.length + depthL s) (W_ st)
theorem depthL_app1 (l : List Tt) (t : Tt) : depthL (l ++ [t]) = max (depthL l) (depth t + 1) := by
  induction l with
  | nil => rw [List.nil_append, depthL, depthL, depthL]; omega
  | cons x l ih => rw [List.cons_append, depthL, ih, depthL]; omega
theorem step1_W {st s : Stk} {c : Nat} (h : step1 st c = some s) : W_ st ≤ W_ s := by
  unfold step1 at h
  by_cases e : c = 40
  · rw [if_pos e] at h; cases h
    show _ ≤ max _ (W_ st)
    omega
  · rw [if_neg e] at h
    cases st with
    | nil => cases h
    | cons b r =>
      cases r with
      | nil => cases h
      | cons p r =>
        cases h
        show max ((p :: r).length + depthL b) (max (r.length + depthL p) (W_ r)) ≤ max (r.length + depthL (p ++ [.mk b])) (W_ r)
        rw [depthL_app1, depth, List.length_cons]
        omega
theorem rdS_W : ∀ (l : List Nat) (st s : Stk), rdS st l = some s → W_ st ≤ W_ s
  | [], st, s, h => by cases h; exact Nat.le_refl _
  | c :: l, st, s, h => by
    rw [rdS_cons] at h
    cases e : step1 st c with
    | none => rw [e] at h; cases h
    | some s1 =>
      rw [e, Option.bind_some] at h
      exact Nat.le_trans (step1_W e) (rdS_W l s1 s h)
theorem len_W : ∀ st : Stk, st.length ≤ W_ st + 1
  | [] => by simp
  | s :: st => by
    show _ ≤ max (st.length + depthL s) (W_ st) + 1
    rw [List.length_cons]; omega
theorem rdS_rdL : ∀ (l : List Nat) (st : Stk) (t : List Tt), depthL t ≤ 40 → rdS st l = some [t] → rdL st l = some [t]
  | [], st, t, _, h => h
  | c :: l, st, t, hd, h => by
    rw [rdS_cons] at h
    rw [rdL_cons]
    cases e : step1 st c with
    | none => rw [e] at h; cases h
    | some s1 =>
      rw [e, Option.bind_some] at h
      rw [Option.bind_some]
      have h1 := rdS_W l s1 _ h
      have h2 := len_W s1
      have h3 : W_ [t] = max (0 + depthL t) 0 := rfl
      rw [if_neg (by omega)]
      exact rdS_rdL l s1 t hd h
/-! ### texts -/
def mkS (l : List Nat) : Str := ⟨l.toArray⟩
theorem mkS_append (a b : List Nat) : mkS a ++ mkS b = mkS (a ++ b) := by
  show Str.append (mkS a) (mkS b) = _
  unfold Str.append mkS
  simp
theorem mkS_len (a : List Nat) : (mkS a).length = a.length := by unfold mkS Str.length; simp
theorem mkS_inj {a b : List Nat} (h : mkS a = mkS b) : a = b := by
  unfold mkS at h
  injection h with h
  simpa using congrArg Array.toList h
theorem lit40 : Str.ofString "(" = mkS [40] := by decide +kernel
theorem lit41 : Str.ofString ")" = mkS [41] := by decide +kernel
theorem litE : Str.ofString "" = mkS [] := by decide +kernel
theorem litB : Str.ofString "()" = mkS [40, 41] := by decide +kernel
theorem join_nil : ∀ ys : List (List Nat), Txt.join (mkS []) (ys.map mkS) = mkS ys.flatten := by
  intro ys
  unfold Txt.join
  rw [StrLaws.glued_eq_join]
  induction ys with
  | nil => rfl
  | cons y ys ih =>
    cases ys with
    | nil => show mkS y = _; simp
    | cons z ys =>
      show mkS y ++ mkS [] ++ Str.join (mkS []) ((z :: ys).map mkS) = _
      rw [ih, mkS_append, mkS_append]; simp
theorem flatten_txt : ∀ l : List Tt, (l.map fun x => 40 :: (txt x ++ [41])).flatten = txtL l
  | [] => by rw [txtL_nil]; rfl
  | x :: l => by rw [List.map_cons, List.flatten_cons, flatten_txt l, txtL_cons]; simp
theorem strip_brk {l : List Nat} (h : brk l) : Txt.stripChars (mkS l) (mkS [40, 41]) = mkS [] := by
  have g : ∀ c, c ∈ l → (mkS [40, 41]).cps.contains c = true := fun c hc => by
    rcases h c hc with e | e <;> subst e <;> decide +kernel
  have t : ∀ m : List Nat, (∀ c, c ∈ m → (mkS [40, 41]).cps.contains c = true) → m.takeWhile (mkS [40, 41]).cps.contains = m := fun m hm => by
    induction m with
    | nil => rfl
    | cons c m ih => rw [List.takeWhile_cons_of_pos (hm c List.mem_cons_self), ih fun d hd => hm d (List.mem_cons_of_mem _ hd)]
  have e1 : (mkS l).cps.toList = l := by unfold mkS; simp
  unfold Txt.stripChars Txt.stripBy
  have lo : stripLo (mkS [40, 41]).cps.contains true (mkS l) = l.length := by
    unfold stripLo
    rw [if_pos rfl, e1, t l g]
  have hi : stripHi (mkS [40, 41]).cps.contains true (mkS l) l.length = l.length := by
    unfold stripHi
    rw [if_pos rfl, e1, List.drop_length, mkS_len]; rfl
  unfold stripSame stripped
  rw [lo, hi, mkS_len]
  by_cases h0 : l.length = 0
  · have : l = [] := List.length_eq_zero_iff.mp h0
    subst this
    rfl
  · have b0 : (l.length == 0) = false := by simpa using h0
    rw [b0, Bool.false_and, if_neg Bool.false_ne_true]
    show (⟨(mkS l).cps.extract l.length l.length⟩ : Str) = mkS []
    unfold mkS
    simp
end Hg
set_option Elab.async false
set_option linter.all false
set_option maxRecDepth 100000
set_option maxHeartbeats 4000000
namespace Hg
open PySem L2
def top (i : Nat) : Stmt := PySem.Challenge.pw_headsgrow_k04_whole_texts.main.body.getD i (.Pass ⟨0, 0, 0, 0⟩)
abbrev s_is_tree : Stmt := top 12
theorem sc_is_tree : FnScope ["thing", "depth", "left", "branch"] ["thing", "depth", "left"] (defScope s_is_tree) := ⟨rfl, rfl, rfl, by decide +kernel, rfl, by decide +kernel, by decide +kernel⟩
abbrev s_asked_tree : Stmt := top 13
theorem sc_asked_tree : FnScope ["tree"] ["tree"] (defScope s_asked_tree) := ⟨rfl, rfl, rfl, by decide +kernel, rfl, by decide +kernel, by decide +kernel⟩
abbrev s_compared : Stmt := top 14
theorem sc_compared : FnScope ["one", "other", "mine", "theirs", "found"] ["one", "other"] (defScope s_compared) := ⟨rfl, rfl, rfl, by decide +kernel, rfl, by decide +kernel, by decide +kernel⟩
abbrev s_merged : Stmt := top 15
theorem sc_merged : FnScope ["one", "other", "found", "near", "far"] ["one", "other"] (defScope s_merged) := ⟨rfl, rfl, rfl, by decide +kernel, rfl, by decide +kernel, by decide +kernel⟩
abbrev s_copied : Stmt := top 16
theorem sc_copied : FnScope ["tree", "branch"] ["tree"] (defScope s_copied) := ⟨rfl, rfl, rfl, by decide +kernel, rfl, by decide +kernel, by decide +kernel⟩
abbrev s_told_of : Stmt := top 17
theorem sc_told_of : FnScope ["tree", "found", "branch"] ["tree"] (defScope s_told_of) := ⟨rfl, rfl, rfl, by decide +kernel, rfl, by decide +kernel, by decide +kernel⟩
abbrev s_text_of : Stmt := top 19
theorem sc_text_of : FnScope ["tree", "branch"] ["tree"] (defScope s_text_of) := ⟨rfl, rfl, rfl, by decide +kernel, rfl, by decide +kernel, by decide +kernel⟩
abbrev s_text : Stmt := top 20
theorem sc_text : FnScope ["tree"] ["tree"] (defScope s_text) := ⟨rfl, rfl, rfl, by decide +kernel, rfl, by decide +kernel, by decide +kernel⟩
abbrev s_read : Stmt := top 21
theorem sc_read : FnScope ["text", "open_ones", "sign", "branch"] ["text"] (defScope s_read) := ⟨rfl, rfl, rfl, by decide +kernel, rfl, by decide +kernel, by decide +kernel⟩
abbrev s__law_number : Stmt := top 23
theorem sc__law_number : FnScope ["_law_cell", "_law_at", "_law_whole", "_law_mixed", "_law_more_here"] ["_law_cell", "_law_at", "_law_whole"] (defScope s__law_number) := ⟨rfl, rfl, rfl, by decide +kernel, rfl, by decide +kernel, by decide +kernel⟩
abbrev s__law_tree : Stmt := top 24
theorem sc__law_tree : FnScope ["_law_script", "_law_most", "_law_by", "_law_cells", "_law_tree_here", "_law_own_here", "_law_at", "_law_cell", "_law_number_here", "_law_kind", "_law_spot", "_law_branch"] ["_law_script", "_law_most", "_law_by"] (defScope s__law_tree) := ⟨rfl, rfl, rfl, by decide +kernel, rfl, by decide +kernel, by decide +kernel⟩
abbrev s__law_copied : Stmt := top 25
theorem sc__law_copied : FnScope ["_law_tree_here", "_law_branch"] ["_law_tree_here"] (defScope s__law_copied) := ⟨rfl, rfl, rfl, by decide +kernel, rfl, by decide +kernel, by decide +kernel⟩
abbrev s__law_more : Stmt := top 26
theorem sc__law_more : FnScope ["_law_one", "_law_other", "_law_at", "_law_found"] ["_law_one", "_law_other"] (defScope s__law_more) := ⟨rfl, rfl, rfl, by decide +kernel, rfl, by decide +kernel, by decide +kernel⟩
abbrev s__law_told : Stmt := top 27
theorem sc__law_told : FnScope ["_law_tree_here", "_law_found", "_law_branch", "_law_at"] ["_law_tree_here"] (defScope s__law_told) := ⟨rfl, rfl, rfl, by decide +kernel, rfl, by decide +kernel, by decide +kernel⟩
abbrev s__law_is_tree : Stmt := top 28
theorem sc__law_is_tree : FnScope ["_law_found", "_law_branch"] ["_law_found"] (defScope s__law_is_tree) := ⟨rfl, rfl, rfl, by decide +kernel, rfl, by decide +kernel, by decide +kernel⟩
abbrev s__law_own : Stmt := top 30
theorem sc__law_own : FnScope ["_law_tree_here", "_law_own_here", "_law_branch"] ["_law_tree_here", "_law_own_here"] (defScope s__law_own) := ⟨rfl, rfl, rfl, by decide +kernel, rfl, by decide +kernel, by decide +kernel⟩
abbrev s__law_spoilt : Stmt := top 31
theorem sc__law_spoilt : FnScope ["_law_tree_here", "_law_own_here", "_law_sizes", "_law_knot", "_law_size"] ["_law_tree_here"] (defScope s__law_spoilt) := ⟨rfl, rfl, rfl, by decide +kernel, rfl, by decide +kernel, by decide +kernel⟩
abbrev s__law_text : Stmt := top 32
theorem sc__law_text : FnScope ["_law_tree_here", "_law_branch"] ["_law_tree_here"] (defScope s__law_text) := ⟨rfl, rfl, rfl, by decide +kernel, rfl, by decide +kernel, by decide +kernel⟩
abbrev s__law_read : Stmt := top 33
theorem sc__law_read : FnScope ["_law_signs", "_law_open_ones", "_law_sign", "_law_branch"] ["_law_signs"] (defScope s__law_read) := ⟨rfl, rfl, rfl, by decide +kernel, rfl, by decide +kernel, by decide +kernel⟩
abbrev s__law_refused : Stmt := top 34
theorem sc__law_refused : FnScope ["_law_signs", "error", "_law_others"] ["_law_signs"] (defScope s__law_refused) := ⟨rfl, rfl, rfl, by decide +kernel, rfl, by decide +kernel, by decide +kernel⟩
abbrev s__law_read_right : Stmt := top 35
theorem sc__law_read_right : FnScope ["_law_signs", "_law_due", "_law_found"] ["_law_signs"] (defScope s__law_read_right) := ⟨rfl, rfl, rfl, by decide +kernel, rfl, by decide +kernel, by decide +kernel⟩
abbrev s_law : Stmt := top 36
theorem sc_law : FnScope ["_law_script", "_law_whole", "_law_flat", "_law_tree_here", "_law_handed", "_law_signs", "_law_at", "_law_bent", "_law_drawn", "_law_k", "_law_cell"] ["_law_script"] (defScope s_law) := ⟨rfl, rfl, rfl, by decide +kernel, rfl, by decide +kernel, by decide +kernel⟩
structure Txt (K : PySem.W.Frag) (mg : Str → Option Value) where
  a_is_tree : Addr
  d_is_tree : FuncData
  F_is_tree : Fun K "is_tree" "is_tree" s_is_tree a_is_tree d_is_tree
  b_is_tree : Binds K d_is_tree ["thing", "depth", "left"] []
  m_is_tree : mg "is_tree" = some (.ref a_is_tree)
  k_is_tree : PySem.W.keepIn K (.ref a_is_tree) = true
  a_asked_tree : Addr
  d_asked_tree : FuncData
  F_asked_tree : Fun K "asked_tree" "asked_tree" s_asked_tree a_asked_tree d_asked_tree
  b_asked_tree : Binds K d_asked_tree ["tree"] []
  m_asked_tree : mg "asked_tree" = some (.ref a_asked_tree)
  k_asked_tree : PySem.W.keepIn K (.ref a_asked_tree) = true
  a_compared : Addr
  d_compared : FuncData
  F_compared : Fun K "compared" "compared" s_compared a_compared d_compared
  b_compared : Binds K d_compared ["one", "other"] []
  m_compared : mg "compared" = some (.ref a_compared)
  k_compared : PySem.W.keepIn K (.ref a_compared) = true
  a_merged : Addr
  d_merged : FuncData
  F_merged : Fun K "merged" "merged" s_merged a_merged d_merged
  b_merged : Binds K d_merged ["one", "other"] []
  m_merged : mg "merged" = some (.ref a_merged)
  k_merged : PySem.W.keepIn K (.ref a_merged) = true
  a_copied : Addr
  d_copied : FuncData
  F_copied : Fun K "copied" "copied" s_copied a_copied d_copied
  b_copied : Binds K d_copied ["tree"] []
  m_copied : mg "copied" = some (.ref a_copied)
  k_copied : PySem.W.keepIn K (.ref a_copied) = true
  a_told_of : Addr
  d_told_of : FuncData
  F_told_of : Fun K "told_of" "told_of" s_told_of a_told_of d_told_of
  b_told_of : Binds K d_told_of ["tree"] []
  m_told_of : mg "told_of" = some (.ref a_told_of)
  k_told_of : PySem.W.keepIn K (.ref a_told_of) = true
  a_text_of : Addr
  d_text_of : FuncData
  F_text_of : Fun K "text_of" "text_of" s_text_of a_text_of d_text_of
  b_text_of : Binds K d_text_of ["tree"] []
  m_text_of : mg "text_of" = some (.ref a_text_of)
  k_text_of : PySem.W.keepIn K (.ref a_text_of) = true
  a_text : Addr
  d_text : FuncData
  F_text : Fun K "text" "text" s_text a_text d_text
  b_text : Binds K d_text ["tree"] []
  m_text : mg "text" = some (.ref a_text)
  k_text : PySem.W.keepIn K (.ref a_text) = true
  a_read : Addr
  d_read : FuncData
  F_read : Fun K "read" "read" s_read a_read d_read
  b_read : Binds K d_read ["text"] []
  m_read : mg "read" = some (.ref a_read)
  k_read : PySem.W.keepIn K (.ref a_read) = true
  a__law_number : Addr
  d__law_number : FuncData
  F__law_number : Fun K "_law_number" "_law_number" s__law_number a__law_number d__law_number
  b__law_number : Binds K d__law_number ["_law_cell", "_law_at", "_law_whole"] []
  m__law_number : mg "_law_number" = some (.ref a__law_number)
  k__law_number : PySem.W.keepIn K (.ref a__law_number) = true
  a__law_tree : Addr
  d__law_tree : FuncData
  F__law_tree : Fun K "_law_tree" "_law_tree" s__law_tree a__law_tree d__law_tree
  b__law_tree : Binds K d__law_tree ["_law_script", "_law_most", "_law_by"] []
  m__law_tree : mg "_law_tree" = some (.ref a__law_tree)
  k__law_tree : PySem.W.keepIn K (.ref a__law_tree) = true
  a__law_copied : Addr
  d__law_copied : FuncData
  F__law_copied : Fun K "_law_copied" "_law_copied" s__law_copied a__law_copied d__law_copied
  b__law_copied : Binds K d__law_copied ["_law_tree_here"] []
  m__law_copied : mg "_law_copied" = some (.ref a__law_copied)
  k__law_copied : PySem.W.keepIn K (.ref a__law_copied) = true
  a__law_more : Addr
  d__law_more : FuncData
  F__law_more : Fun K "_law_more" "_law_more" s__law_more a__law_more d__law_more
  b__law_more : Binds K d__law_more ["_law_one", "_law_other"] []
  m__law_more : mg "_law_more" = some (.ref a__law_more)
  k__law_more : PySem.W.keepIn K (.ref a__law_more) = true
  a__law_told : Addr
  d__law_told : FuncData
  F__law_told : Fun K "_law_told" "_law_told" s__law_told a__law_told d__law_told
  b__law_told : Binds K d__law_told ["_law_tree_here"] []
  m__law_told : mg "_law_told" = some (.ref a__law_told)
  k__law_told : PySem.W.keepIn K (.ref a__law_told) = true
  a__law_is_tree : Addr
  d__law_is_tree : FuncData
  F__law_is_tree : Fun K "_law_is_tree" "_law_is_tree" s__law_is_tree a__law_is_tree d__law_is_tree
  b__law_is_tree : Binds K d__law_is_tree ["_law_found"] []
  m__law_is_tree : mg "_law_is_tree" = some (.ref a__law_is_tree)
  k__law_is_tree : PySem.W.keepIn K (.ref a__law_is_tree) = true
  a__law_own : Addr
  d__law_own : FuncData
  F__law_own : Fun K "_law_own" "_law_own" s__law_own a__law_own d__law_own
  b__law_own : Binds K d__law_own ["_law_tree_here", "_law_own_here"] []
  m__law_own : mg "_law_own" = some (.ref a__law_own)
  k__law_own : PySem.W.keepIn K (.ref a__law_own) = true
  a__law_spoilt : Addr
  d__law_spoilt : FuncData
  F__law_spoilt : Fun K "_law_spoilt" "_law_spoilt" s__law_spoilt a__law_spoilt d__law_spoilt
  b__law_spoilt : Binds K d__law_spoilt ["_law_tree_here"] []
  m__law_spoilt : mg "_law_spoilt" = some (.ref a__law_spoilt)
  k__law_spoilt : PySem.W.keepIn K (.ref a__law_spoilt) = true
  a__law_text : Addr
  d__law_text : FuncData
  F__law_text : Fun K "_law_text" "_law_text" s__law_text a__law_text d__law_text
  b__law_text : Binds K d__law_text ["_law_tree_here"] []
  m__law_text : mg "_law_text" = some (.ref a__law_text)
  k__law_text : PySem.W.keepIn K (.ref a__law_text) = true
  a__law_read : Addr
  d__law_read : FuncData
  F__law_read : Fun K "_law_read" "_law_read" s__law_read a__law_read d__law_read
  b__law_read : Binds K d__law_read ["_law_signs"] []
  m__law_read : mg "_law_read" = some (.ref a__law_read)
  k__law_read : PySem.W.keepIn K (.ref a__law_read) = true
  a__law_refused : Addr
  d__law_refused : FuncData
  F__law_refused : Fun K "_law_refused" "_law_refused" s__law_refused a__law_refused d__law_refused
  b__law_refused : Binds K d__law_refused ["_law_signs"] []
  m__law_refused : mg "_law_refused" = some (.ref a__law_refused)
  k__law_refused : PySem.W.keepIn K (.ref a__law_refused) = true
  a__law_read_right : Addr
  d__law_read_right : FuncData
  F__law_read_right : Fun K "_law_read_right" "_law_read_right" s__law_read_right a__law_read_right d__law_read_right
  b__law_read_right : Binds K d__law_read_right ["_law_signs"] []
  m__law_read_right : mg "_law_read_right" = some (.ref a__law_read_right)
  k__law_read_right : PySem.W.keepIn K (.ref a__law_read_right) = true
  a_law : Addr
  d_law : FuncData
  F_law : Fun K "law" "law" s_law a_law d_law
  b_law : Binds K d_law ["_law_script"] []
  m_law : mg "law" = some (.ref a_law)
  k_law : PySem.W.keepIn K (.ref a_law) = true
  z_len : mg "len" = none
  z_list : mg "list" = none
  z_range : mg "range" = none
  z_zip : mg "zip" = none
  z_enumerate : mg "enumerate" = none
  z_min : mg "min" = none
  z_sum : mg "sum" = none
  z_all : mg "all" = none
  z_any : mg "any" = none
  z_isinstance : mg "isinstance" = none
  z_str : mg "str" = none
  t_MOST : Tok
  c_MOST : mg "MOST" = some (.int 300 t_MOST)
  t_DEEPEST : Tok
  c_DEEPEST : mg "DEEPEST" = some (.int 40 t_DEEPEST)
  A_HeadError : Addr
  g_HeadError : mg "HeadError" = some (.ref A_HeadError)
  k_HeadError : PySem.W.keepIn K (.ref A_HeadError) = true
  x_HeadError : PySem.W.excIn K A_HeadError [.type "ValueError", .type "Exception", .type "BaseException", .type "object"] "ValueError.__new__" = true
  sb_HeadError : PySem.W.subIn K (.ref A_HeadError) (.type "BaseException") = some true
  tt_HeadError : PySem.W.typeIn K (.ref A_HeadError) = some (.type "type")
  A_BadTree : Addr
  g_BadTree : mg "BadTree" = some (.ref A_BadTree)
  k_BadTree : PySem.W.keepIn K (.ref A_BadTree) = true
  x_BadTree : PySem.W.excIn K A_BadTree [.type "ValueError", .type "Exception", .type "BaseException", .type "object"] "ValueError.__new__" = true
  sb_BadTree : PySem.W.subIn K (.ref A_BadTree) (.type "BaseException") = some true
  tt_BadTree : PySem.W.typeIn K (.ref A_BadTree) = some (.type "type")
  A_BadWay : Addr
  g_BadWay : mg "BadWay" = some (.ref A_BadWay)
  k_BadWay : PySem.W.keepIn K (.ref A_BadWay) = true
  x_BadWay : PySem.W.excIn K A_BadWay [.type "ValueError", .type "Exception", .type "BaseException", .type "object"] "ValueError.__new__" = true
  sb_BadWay : PySem.W.subIn K (.ref A_BadWay) (.type "BaseException") = some true
  tt_BadWay : PySem.W.typeIn K (.ref A_BadWay) = some (.type "type")
  A_BadTimes : Addr
  g_BadTimes : mg "BadTimes" = some (.ref A_BadTimes)
  k_BadTimes : PySem.W.keepIn K (.ref A_BadTimes) = true
  x_BadTimes : PySem.W.excIn K A_BadTimes [.type "ValueError", .type "Exception", .type "BaseException", .type "object"] "ValueError.__new__" = true
  sb_BadTimes : PySem.W.subIn K (.ref A_BadTimes) (.type "BaseException") = some true
  tt_BadTimes : PySem.W.typeIn K (.ref A_BadTimes) = some (.type "type")
  A_BadNumber : Addr
  g_BadNumber : mg "BadNumber" = some (.ref A_BadNumber)
  k_BadNumber : PySem.W.keepIn K (.ref A_BadNumber) = true
  x_BadNumber : PySem.W.excIn K A_BadNumber [.type "ValueError", .type "Exception", .type "BaseException", .type "object"] "ValueError.__new__" = true
  sb_BadNumber : PySem.W.subIn K (.ref A_BadNumber) (.type "BaseException") = some true
  tt_BadNumber : PySem.W.typeIn K (.ref A_BadNumber) = some (.type "type")
  A_BadBase : Addr
  g_BadBase : mg "BadBase" = some (.ref A_BadBase)
  k_BadBase : PySem.W.keepIn K (.ref A_BadBase) = true
  x_BadBase : PySem.W.excIn K A_BadBase [.type "ValueError", .type "Exception", .type "BaseException", .type "object"] "ValueError.__new__" = true
  sb_BadBase : PySem.W.subIn K (.ref A_BadBase) (.type "BaseException") = some true
  tt_BadBase : PySem.W.typeIn K (.ref A_BadBase) = some (.type "type")
  A_BadText : Addr
  g_BadText : mg "BadText" = some (.ref A_BadText)
  k_BadText : PySem.W.keepIn K (.ref A_BadText) = true
  x_BadText : PySem.W.excIn K A_BadText [.type "ValueError", .type "Exception", .type "BaseException", .type "object"] "ValueError.__new__" = true
  sb_BadText : PySem.W.subIn K (.ref A_BadText) (.type "BaseException") = some true
  tt_BadText : PySem.W.typeIn K (.ref A_BadText) = some (.type "type")
  A_TooGreat : Addr
  g_TooGreat : mg "TooGreat" = some (.ref A_TooGreat)
  k_TooGreat : PySem.W.keepIn K (.ref A_TooGreat) = true
  x_TooGreat : PySem.W.excIn K A_TooGreat [.type "ValueError", .type "Exception", .type "BaseException", .type "object"] "ValueError.__new__" = true
  sb_TooGreat : PySem.W.subIn K (.ref A_TooGreat) (.type "BaseException") = some true
  tt_TooGreat : PySem.W.typeIn K (.ref A_TooGreat) = some (.type "type")
  hd_HeadError : PySem.W.hasDictIn K A_HeadError = true
  ex_BadTree : ExcC K A_BadTree
  su_BadTree : PySem.W.subIn K (.ref A_BadTree) (.ref A_HeadError) = some true
  kt_BadTree_BadBase : PySem.W.kitOne K (.ref A_BadTree) (.ref A_BadBase) = some false
  kt_BadTree_BadNumber : PySem.W.kitOne K (.ref A_BadTree) (.ref A_BadNumber) = some false
  kt_BadTree_BadTimes : PySem.W.kitOne K (.ref A_BadTree) (.ref A_BadTimes) = some false
  kt_BadTree_BadText : PySem.W.kitOne K (.ref A_BadTree) (.ref A_BadText) = some false
  kt_BadTree_BadTree : PySem.W.kitOne K (.ref A_BadTree) (.ref A_BadTree) = some true
  kt_BadTree_BadWay : PySem.W.kitOne K (.ref A_BadTree) (.ref A_BadWay) = some false
  kt_BadTree_TooGreat : PySem.W.kitOne K (.ref A_BadTree) (.ref A_TooGreat) = some false
  ex_BadText : ExcC K A_BadText
  su_BadText : PySem.W.subIn K (.ref A_BadText) (.ref A_HeadError) = some true
  kt_BadText_BadBase : PySem.W.kitOne K (.ref A_BadText) (.ref A_BadBase) = some false
  kt_BadText_BadNumber : PySem.W.kitOne K (.ref A_BadText) (.ref A_BadNumber) = some false
  kt_BadText_BadTimes : PySem.W.kitOne K (.ref A_BadText) (.ref A_BadTimes) = some false
  kt_BadText_BadText : PySem.W.kitOne K (.ref A_BadText) (.ref A_BadText) = some true
  kt_BadText_BadTree : PySem.W.kitOne K (.ref A_BadText) (.ref A_BadTree) = some false
  kt_BadText_BadWay : PySem.W.kitOne K (.ref A_BadText) (.ref A_BadWay) = some false
  kt_BadText_TooGreat : PySem.W.kitOne K (.ref A_BadText) (.ref A_TooGreat) = some false
section
variable {P : Program} {w : World} {K : PySem.W.Frag} {mg : Str → Option Value} {base : Heap}
/-! ### copied -/
def spCopied (n : Nat) : Sp := fun vs H Q _ => ∃ (v : V) (t : Tt), vs = [v] ∧ TreeAt H v t ∧ fit t ∧ depth t < n ∧ ∀ H' r, New H H' r t → Q r H'
theorem depthL_le : ∀ {l : List Tt} {x : Tt}, x ∈ l → depth x + 1 ≤ depthL l
  | y :: l, x, h => by
    rw [depthL]
    rcases List.mem_cons.mp h with e | h
    · rw [e]; omega
    · have := depthL_le h; omega
theorem depth_bs {l : List Tt} {x : Tt} {n : Nat} (h : depth (.mk l) < n + 1) (hx : x ∈ l) : depth x < n := by
  rw [depth] at h
  have := depthL_le hx
  omega
theorem none_left {CX : CXT} {k : Nat} {f : Addr} {fd : FuncData} {ps : List Str} {sp : Sp} (no : ∀ vs H Q E, ¬ sp vs H Q E) : FnOk P w K mg base CX k f fd ps sp :=
  ⟨fun vs H Q E h => absurd h (no vs H Q E), fun A outer s H args us vs Q E _ _ _ _ h => absurd h (no vs H Q E)⟩
theorem take_more {α : Type} : ∀ {l : List α} {i : Nat} {x : α}, l[i]? = some x → l.take (i + 1) = l.take i ++ [x]
  | [], i, x, h => by simp at h
  | a :: l, 0, x, h => by
    have e : a = x := Option.some.inj (by simpa using h)
    subst e
    rfl
  | a :: l, i + 1, x, h => by
    have ih := take_more (l := l) (i := i) (x := x) (by simpa using h)
    rw [List.take_succ_cons, ih, List.take_succ_cons, List.cons_append]
theorem ok_copied (T : Txt K mg) : ∀ n, FnOk P w K mg base CX0 n T.a_copied T.d_copied ["tree"] (spCopied n)
  | 0 => none_left fun vs H Q E ⟨v, t, _, _, _, h, _⟩ => by omega
  | n + 1 => by
    have G_copied := ok_copied T n
    refine T.F_copied.ok sc_copied (fun vs H Q E h => ?_) (fun cdv A outer s H vs Q E hr h => ?_)
    · obtain ⟨v, t, rfl, _⟩ := h; rfl
    obtain ⟨v, ⟨bs⟩, rfl, ht, hf, hd, q⟩ := h
    have R_copied : Room n _ := hr
    rw [treeAt_mk] at ht
    obtain ⟨a, xs, rfl, ha, hbs⟩ := ht
    refine ⟨_, (pss_one (ps_ret (pe_lc (own := [("branch", 1)]) (g := gName 1) (tt := tYes) rfl sc_copied.nd (pi_list (pv 0)) (blkOk_by (own := [("branch", 1)]) (N := ["tree", "branch"]) (sc := defScope s_copied) (by decide +kernel)) (fun _ _ _ _ _ => (pg_name (i := 1) sc_copied.nd rfl (Or.inl rfl))) (fun _ _ _ _ _ => pts_nil) (fun _ _ _ _ _ => (pe_call G_copied R_copied rfl T.m_copied T.k_copied T.b_copied .nil pass0 (pa_cons (pv 1) pa_nil)))))), ?_⟩
    refine ⟨_, rfl, a, rfl, ⟨xs, SqL.of ha⟩, fun D nD => ?_⟩
    refine lc_list (K := K) (a := a) (xs := xs) (fun i H' => Grow H H' D (bs.take i)) (Grow.start nD) (fun i H' _ g => SqL.of (g.same _ _ ha)) (fun i x H' hx g => ?_) (fun H' g => ?_)
    · obtain ⟨b, hb, hxb⟩ := hbs.get hx
      have mb := List.mem_of_getElem? hb
      refine ⟨rfl, ?_⟩
      refine ⟨_, rfl, x, b, rfl, TreeAt.same g.same b hxb, fit_bs hf mb, depth_bs hd mb, fun H2 r nw => ?_⟩
      obtain ⟨acc, h1, h2, h3⟩ := g.more nw
      refine ⟨acc, h1, ?_, ?_⟩
      · rw [h2, List.length_take]
        exact lim_line (Nat.le_trans (Nat.min_le_right _ _) (fit_len hf))
      · rw [take_more hb]; exact h3
    · rw [hbs.len, List.take_length] at g
      exact q _ _ g.done
theorem ok__law_copied (T : Txt K mg) : ∀ n, FnOk P w K mg base CX0 n T.a__law_copied T.d__law_copied ["_law_tree_here"] (spCopied n)
  | 0 => none_left fun vs H Q E ⟨v, t, _, _, _, h, _⟩ => by omega
  | n + 1 => by
    have G__law_copied := ok__law_copied T n
    refine T.F__law_copied.ok sc__law_copied (fun vs H Q E h => ?_) (fun cdv A outer s H vs Q E hr h => ?_)
    · obtain ⟨v, t, rfl, _⟩ := h; rfl
    obtain ⟨v, ⟨bs⟩, rfl, ht, hf, hd, q⟩ := h
    have R__law_copied : Room n _ := hr
    rw [treeAt_mk] at ht
    obtain ⟨a, xs, rfl, ha, hbs⟩ := ht
    refine ⟨_, (pss_one (ps_ret (pe_lc (own := [("_law_branch", 1)]) (g := gName 1) (tt := tYes) rfl sc__law_copied.nd (pi_list (pv 0)) (blkOk_by (own := [("_law_branch", 1)]) (N := ["_law_tree_here", "_law_branch"]) (sc := defScope s__law_copied) (by decide +kernel)) (fun _ _ _ _ _ => (pg_name (i := 1) sc__law_copied.nd rfl (Or.inl rfl))) (fun _ _ _ _ _ => pts_nil) (fun _ _ _ _ _ => (pe_call G__law_copied R__law_copied rfl T.m__law_copied T.k__law_copied T.b__law_copied .nil pass0 (pa_cons (pv 1) pa_nil)))))), ?_⟩
    refine ⟨_, rfl, a, rfl, ⟨xs, SqL.of ha⟩, fun D nD => ?_⟩
    refine lc_list (K := K) (a := a) (xs := xs) (fun i H' => Grow H H' D (bs.take i)) (Grow.start nD) (fun i H' _ g => SqL.of (g.same _ _ ha)) (fun i x H' hx g => ?_) (fun H' g => ?_)
    · obtain ⟨b, hb, hxb⟩ := hbs.get hx
      have mb := List.mem_of_getElem? hb
      refine ⟨rfl, ?_⟩
      refine ⟨_, rfl, x, b, rfl, TreeAt.same g.same b hxb, fit_bs hf mb, depth_bs hd mb, fun H2 r nw => ?_⟩
      obtain ⟨acc, h1, h2, h3⟩ := g.more nw
      refine ⟨acc, h1, ?_, ?_⟩
      · rw [h2, List.length_take]
        exact lim_line (Nat.le_trans (Nat.min_le_right _ _) (fit_len hf))
      · rw [take_more hb]; exact h3
    · rw [hbs.len, List.take_length] at g
      exact q _ _ g.done
end
section
variable {P : Program} {w : World} {K : PySem.W.Frag} {mg : Str → Option Value} {base : Heap}
/-! ### compared -/
theorem drop_get {α : Type} {l : List α} {i : Nat} {x : α} (h : l[i]? = some x) : l.drop i = x :: l.drop (i + 1) := by
  obtain ⟨hi, e⟩ := List.getElem?_eq_some_iff.mp h
  rw [← e]
  exact List.drop_eq_getElem_cons hi
def spCompared (n : Nat) : Sp := fun vs H Q _ => ∃ (v u : V) (t s : Tt), vs = [v, u] ∧ TreeAt H v t ∧ TreeAt H u s ∧ depth t < n ∧ ∀ H', Same H H' → Q (.int (cmp t s)) H'
theorem cmpL_end : ∀ {i : Nat} {bs cs : List Tt}, i = min bs.length cs.length → cmpL (bs.drop i) (cs.drop i) = (bs.length : Int) - cs.length
  | 0, [], cs, _ => by rw [List.drop_zero, List.drop_zero, cmpL_nil]; simp
  | 0, x :: a, [], _ => by rw [List.drop_zero, List.drop_zero, cmpL_nil_r]; simp
  | 0, x :: a, y :: b, h => by simp only [List.length_cons] at h; omega
  | i + 1, [], cs, h => by simp at h
  | i + 1, x :: a, [], h => by simp at h
  | i + 1, x :: a, y :: b, h => by
    have ih := cmpL_end (i := i) (bs := a) (cs := b) (by simp only [List.length_cons] at h; omega)
    rw [List.drop_succ_cons, List.drop_succ_cons, ih, List.length_cons, List.length_cons]
    omega
theorem same_tup {H H' : Hp} {Tp : Addr} {o : HO} (s : Same H H') (h : H' Tp = none) : Same H (upd H' Tp o) := s.trans (same_new h o)
theorem ok_compared (T : Txt K mg) : ∀ n, FnOk P w K mg base CX0 n T.a_compared T.d_compared ["one", "other"] (spCompared n)
  | 0 => none_left fun vs H Q E ⟨v, u, t, s, _, _, _, h, _⟩ => by omega
  | n + 1 => by
    have G_compared := ok_compared T n
    refine T.F_compared.ok sc_compared (fun vs H Q E h => ?_) (fun cdv A outer s H vs Q E hr h => ?_)
    · obtain ⟨v, u, t, s, rfl, _⟩ := h; rfl
    obtain ⟨v, u, ⟨bs⟩, ⟨cs⟩, rfl, ht, hu, hd, q⟩ := h
    have R_compared : Room n _ := hr
    rw [treeAt_mk] at ht hu
    obtain ⟨a, xs, rfl, ha, hbs⟩ := ht
    obtain ⟨b, ys, rfl, hb, hcs⟩ := hu
    rw [cmp_mk] at q
    refine ⟨_, (pss_cons (ps_for PassesOwn.never rfl (pi_zip (by rfl) T.z_zip (pa_cons (pv 0) (pa_cons (pv 1) pa_nil))) (pg_tup rfl (pgs_cons (pg_name (i := 2) sc_compared.nd rfl (Or.inl rfl)) (pgs_cons (pg_name (i := 3) sc_compared.nd rfl (Or.inl rfl)) pgs_nil))) (pss_cons (ps_set (i := 4) sc_compared.nd rfl (Or.inl rfl) (pe_call G_compared R_compared rfl T.m_compared T.k_compared T.b_compared .nil pass0 (pa_cons (pv 2) (pa_cons (pv 3) pa_nil))))
        (pss_one (ps_if (pt_cmpR op_ne (pv 4) pe_int (nomark _)) (pss_one (ps_ret (pv 4))) pss_nil))))
      (pss_one (ps_ret (pe_op op_sub (pe_callB (r := rLenS K) call_len_seqK rfl T.z_len PySem.boot_len (pa_cons (pv 0) pa_nil)) (pe_callB (r := rLenS K) call_len_seqK rfl T.z_len PySem.boot_len (pa_cons (pv 1) pa_nil)))))), ?_⟩
    refine ⟨_, rfl, _, rfl, a, b, xs, ys, rfl, SqL.of ha, SqL.of hb, ?_⟩
    refine for_it (walk_zip rfl) (fun i σ H' => Same H H' ∧ cmpL bs cs = cmpL (bs.drop i) (cs.drop i) ∧ ∃ m th f, σ = [some (.ref a), some (.ref b), m, th, f]) ⟨Same.refl H, by simp, none, none, none, rfl⟩ (fun i σ H' _ p => ⟨SqL.of (p.1 _ _ ha), SqL.of (p.1 _ _ hb)⟩) ?_ ?_
    · rintro i x σ H1 H2 hi ⟨s1, e1, m, th, f, rfl⟩ ⟨Tp, x, y, rfl, nT, rfl, hx, hy⟩
      obtain ⟨t1, ht1, hxt⟩ := hbs.get hx
      obtain ⟨t2, ht2, hyt⟩ := hcs.get hy
      have s2 : Same H (upd H1 Tp (.tup [x, y])) := same_tup s1 nT
      refine ⟨Tp, [x, y], rfl, SqT.of upd_same, rfl, x, [y], rfl, y, [], rfl, rfl, ?_⟩
      refine ⟨_, rfl, _, rfl, x, y, t1, t2, rfl, TreeAt.same s2 _ hxt, TreeAt.same s2 _ hyt, depth_bs hd (List.mem_of_getElem? ht1), fun H3 s3 => ?_⟩
      rw [drop_get ht1, drop_get ht2, cmpL_cons] at e1
      refine ⟨_, rfl, rfl, _, rfl, ?_⟩
      refine ite2 (fun c => ?_) (fun c => ?_)
      · have c' : cmp t1 t2 ≠ 0 := fun z => by simp [z] at c
        rw [if_pos c'] at e1
        exact ⟨_, rfl, by rw [← e1]; exact q _ (s2.trans s3)⟩
      · have c' : ¬ cmp t1 t2 ≠ 0 := fun z => c (by simp [z])
        rw [if_neg c'] at e1
        exact ⟨s2.trans s3, e1, _, _, _, rfl⟩
    · rintro σ H1 ⟨s1, e1, m, th, f, rfl⟩
      refine ⟨_, rfl, a, _, rfl, .inl (SqL.of (s1 _ _ ha)), _, rfl, b, _, rfl, .inl (SqL.of (s1 _ _ hb)), _, _, rfl, rfl, ?_⟩
      rw [hbs.len, hcs.len] at e1
      show Q (.int ((xs.length : Int) - (ys.length : Int))) H1
      rw [hbs.len, hcs.len, ← cmpL_end rfl, ← e1]
      exact q _ s1
/-! ### merged -/
def spMerged (n : Nat) : Sp := fun vs H Q _ => ∃ (v u : V) (l m : List Tt), vs = [v, u] ∧ TreeAt H v (.mk l) ∧ TreeAt H u (.mk m) ∧ fitL l ∧ fitL m ∧ l.length + m.length ≤ lim ∧ (∀ x, x ∈ l → depth x < n) ∧ (∀ x, x ∈ m → depth x < n) ∧
  ∀ H' r, New H H' r (.mk (merge l m)) → Q r H'
theorem at_ix {xs : List V} {i : Nat} {x : V} (h : xs[i]? = some x) : atI xs (i : Int) = some x := atI_nat h
theorem merge_len (l m : List Tt) : (merge l m).length = l.length + m.length := by
  rw [(merge_perm l m).length_eq, List.length_append]
theorem merge_stepL {l m : List Tt} {i j : Nat} {x : Tt} (hx : l[i]? = some x) (h : j = m.length ∨ ∃ y, m[j]? = some y ∧ 0 ≤ cmp x y) : merge (l.drop i) (m.drop j) = x :: merge (l.drop (i + 1)) (m.drop j) := by
  rw [drop_get hx]
  rcases h with e | ⟨y, hy, c⟩
  · rw [e, List.drop_length, merge_nil_r, merge_nil_r]
  · rw [drop_get hy]
    conv => lhs; unfold merge
    rw [if_pos c]
theorem merge_stepR {l m : List Tt} {i j : Nat} {y : Tt} (hy : m[j]? = some y) (h : i = l.length ∨ ∃ x, l[i]? = some x ∧ cmp x y < 0) : merge (l.drop i) (m.drop j) = y :: merge (l.drop i) (m.drop (j + 1)) := by
  rcases h with e | ⟨x, hx, c⟩
  · rw [e, List.drop_length, drop_get hy]; simp [merge]
  · rw [drop_get hx, drop_get hy]
    conv => lhs; unfold merge
    rw [if_neg (by omega)]
theorem ok_merged (T : Txt K mg) (n : Nat) : FnOk P w K mg base CX0 (n + 1) T.a_merged T.d_merged ["one", "other"] (spMerged n) := by
  have G_compared := ok_compared (P := P) (w := w) (base := base) T n
  have G_copied := ok_copied (P := P) (w := w) (base := base) T n
  refine T.F_merged.ok sc_merged (fun vs H Q E h => ?_) (fun cdv A outer s H vs Q E hr h => ?_)
  · obtain ⟨v, u, l, m, rfl, _⟩ := h; rfl
  obtain ⟨v, u, l, m, rfl, ht, hu, fl, fm, hlen, dl, dm, q⟩ := h
  have R_compared : Room n _ := hr
  have R_copied : Room n _ := hr
  rw [treeAt_mk] at ht hu
  obtain ⟨a, xs, rfl, ha, hbs⟩ := ht
  obtain ⟨b, ys, rfl, hb, hcs⟩ := hu
  have el := hbs.len
  have em := hcs.len
  refine ⟨_, (pss_cons (ps_set (i := 2) sc_merged.nd rfl (Or.inl rfl) (pe_lst pa_nil))
      (pss_cons (ps_set (i := 3) sc_merged.nd rfl (Or.inl rfl) pe_int)
      (pss_cons (ps_set (i := 4) sc_merged.nd rfl (Or.inl rfl) pe_int)
      (pss_cons (ps_while PassesOwn.never (PW.pt (pw_or (pt_cmpR op_lt (pv 3) (pe_callB (r := rLenS K) call_len_seqK rfl T.z_len PySem.boot_len (pa_cons (pv 0) pa_nil)) (nomark _)) (pw_or1 (pt_cmpR op_lt (pv 4) (pe_callB (r := rLenS K) call_len_seqK rfl T.z_len PySem.boot_len (pa_cons (pv 1) pa_nil)) (nomark _))))) (pss_one (ps_if (PW.pt (pw_or (pt_cmpR op_eq (pv 4) (pe_callB (r := rLenS K) call_len_seqK rfl T.z_len PySem.boot_len (pa_cons (pv 1) pa_nil)) (nomark _)) (pw_or1 (PW.pt (pw_and (pt_cmpR op_lt (pv 3) (pe_callB (r := rLenS K) call_len_seqK rfl T.z_len PySem.boot_len (pa_cons (pv 0) pa_nil)) (nomark _)) (pw_and1 (pt_cmpR op_ge (pe_call G_compared R_compared rfl T.m_compared T.k_compared T.b_compared .nil pass0 (pa_cons (pe_ix (r := rIxL K) ix_list (pv 0) (pv 3) (fun _ _ => rfl)) (pa_cons (pe_ix (r := rIxL K) ix_list (pv 1) (pv 4) (fun _ _ => rfl)) pa_nil))) pe_int (nomark _)))))))) (pss_cons (ps_expr (pe_bm PySem.F.plainAttrs_list PySem.F.slot_list_append PySem.F.type_list_append mt_append (pv 2) (pa_cons (pe_call G_copied R_copied rfl T.m_copied T.k_copied T.b_copied .nil pass0 (pa_cons (pe_ix (r := rIxL K) ix_list (pv 0) (pv 3) (fun _ _ => rfl)) pa_nil)) pa_nil)))
          (pss_one (ps_set (i := 3) sc_merged.nd rfl (Or.inl rfl) (pe_op op_add (pv 3) pe_int)))) (pss_cons (ps_expr (pe_bm PySem.F.plainAttrs_list PySem.F.slot_list_append PySem.F.type_list_append mt_append (pv 2) (pa_cons (pe_call G_copied R_copied rfl T.m_copied T.k_copied T.b_copied .nil pass0 (pa_cons (pe_ix (r := rIxL K) ix_list (pv 1) (pv 4) (fun _ _ => rfl)) pa_nil)) pa_nil)))
          (pss_one (ps_set (i := 4) sc_merged.nd rfl (Or.inl rfl) (pe_op op_add (pv 4) pe_int)))))))
      (pss_one (ps_ret (pv 2))))))), ?_⟩
  refine ⟨(by show 0 ≤ sizeLine; decide), fun D nD => ?_⟩
  refine ⟨fun k σ H' => ∃ (i j : Nat) (ts : List Tt), σ = [some (.ref a), some (.ref b), some (.ref D), some (.int i), some (.int j)] ∧ k + i + j = l.length + m.length ∧ i ≤ l.length ∧ j ≤ m.length ∧ Grow H H' D ts ∧ merge l m = ts ++ merge (l.drop i) (m.drop j),
    ⟨l.length + m.length, 0, 0, [], rfl, rfl, Nat.zero_le _, Nat.zero_le _, Grow.start nD, rfl⟩, ?_⟩
  rintro k σ H1 ⟨i, j, ts, rfl, hk, hi, hj, g, e⟩
  have ha1 := g.same _ _ ha
  have hb1 := g.same _ _ hb
  have tl : ts.length + (l.length - i) + (m.length - j) = l.length + m.length := by
    have := congrArg List.length e
    rw [List.length_append, merge_len, merge_len, List.length_drop, List.length_drop] at this
    omega
  have goL : ∀ {x : Tt}, l[i]? = some x → ∃ xv, xs[i]? = some xv ∧ ∀ H2, Same H1 H2 → TreeAt H2 xv x ∧ H2 D = H1 D ∧ ∀ H3 r, New H2 H3 r x → ∃ acc, H3 D = some (.lst acc) ∧ acc.length < sizeLine ∧ Grow H (upd H3 D (.lst (acc ++ [r]))) D (ts ++ [x]) := fun {x} hx => by
    obtain ⟨xv, h1, h2⟩ := hbs.get' hx
    refine ⟨xv, h1, fun H2 s2 => ⟨TreeAt.same (g.same.trans s2) _ h2, ?_, fun H3 r nw => ?_⟩⟩
    · obtain ⟨acc, k1, _⟩ := g.at_
      rw [k1]; exact s2 _ _ k1
    obtain ⟨acc, k1, k2, k3⟩ := (g.step s2).more nw
    exact ⟨acc, k1, lim_line (by have := (List.getElem?_eq_some_iff.mp hx).1; omega), k3⟩
  have goR : ∀ {x : Tt}, m[j]? = some x → ∃ xv, ys[j]? = some xv ∧ ∀ H2, Same H1 H2 → TreeAt H2 xv x ∧ H2 D = H1 D ∧ ∀ H3 r, New H2 H3 r x → ∃ acc, H3 D = some (.lst acc) ∧ acc.length < sizeLine ∧ Grow H (upd H3 D (.lst (acc ++ [r]))) D (ts ++ [x]) := fun {x} hx => by
    obtain ⟨xv, h1, h2⟩ := hcs.get' hx
    refine ⟨xv, h1, fun H2 s2 => ⟨TreeAt.same (g.same.trans s2) _ h2, ?_, fun H3 r nw => ?_⟩⟩
    · obtain ⟨acc, k1, _⟩ := g.at_
      rw [k1]; exact s2 _ _ k1
    obtain ⟨acc, k1, k2, k3⟩ := (g.step s2).more nw
    exact ⟨acc, k1, lim_line (by have := (List.getElem?_eq_some_iff.mp hx).1; omega), k3⟩
  obtain ⟨acc0, hD1, _⟩ := g.at_
  -- near < len(one) or far < len(other)
  refine cut_t (fun b H2 => b = decide (i < l.length ∨ j < m.length) ∧ H2 = H1) (fun Q' hQ' => ?_) ?_
  · refine ⟨_, rfl, _, rfl, a, xs, rfl, .inl (SqL.of ha1), _, _, rfl, rfl, _, rfl, ?_⟩
    refine ite2 (fun c => ?_) (fun c => ?_)
    · refine hQ' _ _ ⟨?_, rfl⟩
      have c' : (i : Int) < (xs.length : Nat) := of_decide_eq_true c
      exact (decide_eq_true (by omega)).symm
    · have c' : ¬ (i : Int) < (xs.length : Nat) := of_decide_eq_false (Bool.eq_false_iff.mpr c)
      refine ⟨_, rfl, _, rfl, b, ys, rfl, .inl (SqL.of hb1), _, _, rfl, rfl, _, rfl, hQ' _ _ ⟨?_, rfl⟩⟩
      refine decide_eq_decide.mpr ?_
      omega
  rintro b2 H2 ⟨rfl, rfl⟩
  refine ite2 (fun c => ?_) (fun c => ?_)
  · have c' := of_decide_eq_true c
    refine ⟨fun σ' H' => ∃ m', m' < k ∧ ∃ (i j : Nat) (ts : List Tt), σ' = [some (.ref a), some (.ref b), some (.ref D), some (.int i), some (.int j)] ∧ m' + i + j = l.length + m.length ∧ i ≤ l.length ∧ j ≤ m.length ∧ Grow H H' D ts ∧ merge l m = ts ++ merge (l.drop i) (m.drop j), fun _ _ h => h, ?_⟩
    -- which one
    refine cut_if (fun b H3 => Same H2 H3 ∧ ((b = true ∧ ∃ x, l[i]? = some x ∧ merge (l.drop i) (m.drop j) = x :: merge (l.drop (i + 1)) (m.drop j)) ∨ (b = false ∧ ∃ x, m[j]? = some x ∧ merge (l.drop i) (m.drop j) = x :: merge (l.drop i) (m.drop (j + 1))))) (fun Q' hQ' => ?_) ?_
    · refine ⟨_, rfl, _, rfl, b, ys, rfl, .inl (SqL.of hb1), rfl, _, rfl, ?_⟩
      refine ite2 (fun c1 => ?_) (fun c1 => ?_)
      · have e1 : (V.int (j : Int)) = V.int ((ys.length : Nat) : Int) := of_decide_eq_true c1
        injection e1 with e1
        have hl : i < l.length := by omega
        exact hQ' _ _ ⟨Same.refl _, .inl ⟨rfl, _, List.getElem?_eq_getElem hl, merge_stepL (List.getElem?_eq_getElem hl) (.inl (by omega))⟩⟩
      · have e1 : ¬ (V.int (j : Int)) = V.int ((ys.length : Nat) : Int) := of_decide_eq_false (Bool.eq_false_iff.mpr c1)
        have hj2 : j < m.length := by
          have : ¬ j = ys.length := fun z => e1 (by rw [z])
          omega
        refine ⟨_, rfl, _, rfl, a, xs, rfl, .inl (SqL.of ha1), _, _, rfl, rfl, _, rfl, ?_⟩
        refine ite2 (fun c2 => ?_) (fun c2 => ?_)
        · have c3 : (i : Int) < ((xs.length : Nat) : Int) := of_decide_eq_true c2
          have hl : i < l.length := by omega
          obtain ⟨xv, hxv, htx⟩ := hbs.get' (List.getElem?_eq_getElem hl)
          obtain ⟨yv, hyv, hty⟩ := hcs.get' (List.getElem?_eq_getElem hj2)
          refine ⟨_, rfl, _, rfl, a, xs, _, _, rfl, rfl, SqL.of ha1, atI_nat hxv, _, rfl, _, rfl, b, ys, _, _, rfl, rfl, SqL.of hb1, atI_nat hyv, xv, yv, l[i], m[j], rfl, TreeAt.same g.same _ htx, TreeAt.same g.same _ hty, dl _ (List.getElem_mem hl), fun H3 s3 => ?_⟩
          refine ⟨_, _, rfl, rfl, _, rfl, ?_⟩
          by_cases cc : 0 ≤ cmp l[i] m[j]
          · exact hQ' _ _ ⟨s3, .inl ⟨decide_eq_true cc, _, List.getElem?_eq_getElem hl, merge_stepL (List.getElem?_eq_getElem hl) (.inr ⟨_, List.getElem?_eq_getElem hj2, cc⟩)⟩⟩
          · exact hQ' _ _ ⟨s3, .inr ⟨decide_eq_false cc, _, List.getElem?_eq_getElem hj2, merge_stepR (List.getElem?_eq_getElem hj2) (.inr ⟨_, List.getElem?_eq_getElem hl, by omega⟩)⟩⟩
        · have c3 : ¬ (i : Int) < ((xs.length : Nat) : Int) := of_decide_eq_false (Bool.eq_false_iff.mpr c2)
          exact hQ' _ _ ⟨Same.refl _, .inr ⟨rfl, _, List.getElem?_eq_getElem hj2, merge_stepR (List.getElem?_eq_getElem hj2) (.inl (by omega))⟩⟩
    · rintro b3 H3 ⟨s3, ⟨rfl, x, hx, hm⟩ | ⟨rfl, x, hx, hm⟩⟩
      · obtain ⟨xv, hxv, go⟩ := goL hx
        obtain ⟨htx, hD3, gr⟩ := go H3 s3
        refine iteT ⟨_, rfl, .inl ⟨rfl, _, SqL.of (hD3.trans hD1)⟩, _, rfl, _, rfl, a, xs, _, _, rfl, rfl, SqL.of (s3 _ _ ha1), atI_nat hxv, xv, x, rfl, htx, fitL_iff.mp fl _ (List.mem_of_getElem? hx), dl _ (List.mem_of_getElem? hx), fun H4 r nw => ?_⟩
        obtain ⟨acc, k1, k2, k3⟩ := gr H4 r nw
        refine ⟨D, acc, r, rfl, rfl, k1, k2, _, rfl, _, _, rfl, rfl, k - 1, ?_⟩
        have := (List.getElem?_eq_some_iff.mp hx).1
        refine ⟨by omega, i + 1, j, ts ++ [x], ?_, by omega, by omega, by omega, k3, by rw [e, hm]; simp⟩
        show [_, _, _, some (V.int ((i : Int) + 1)), _] = _
        congr 1
      · obtain ⟨xv, hxv, go⟩ := goR hx
        obtain ⟨htx, hD3, gr⟩ := go H3 s3
        refine iteF ⟨_, rfl, .inl ⟨rfl, _, SqL.of (hD3.trans hD1)⟩, _, rfl, _, rfl, b, ys, _, _, rfl, rfl, SqL.of (s3 _ _ hb1), atI_nat hxv, xv, x, rfl, htx, fitL_iff.mp fm _ (List.mem_of_getElem? hx), dm _ (List.mem_of_getElem? hx), fun H4 r nw => ?_⟩
        obtain ⟨acc, k1, k2, k3⟩ := gr H4 r nw
        refine ⟨D, acc, r, rfl, rfl, k1, k2, _, rfl, _, _, rfl, rfl, k - 1, ?_⟩
        have := (List.getElem?_eq_some_iff.mp hx).1
        refine ⟨by omega, i, j + 1, ts ++ [x], ?_, by omega, by omega, by omega, k3, by rw [e, hm]; simp⟩
        show [_, _, _, _, some (V.int ((j : Int) + 1))] = _
        congr 1
  · have c' : ¬ (i < l.length ∨ j < m.length) := of_decide_eq_false (Bool.eq_false_iff.mpr c)
    have e1 : i = l.length := by omega
    have e2 : j = m.length := by omega
    rw [e1, e2, List.drop_length, List.drop_length, merge_nil_r, List.append_nil] at e
    refine ⟨_, rfl, q _ _ ?_⟩
    rw [e]; exact g.done
end
section
variable {P : Program} {w : World} {K : PySem.W.Frag} {mg : Str → Option Value} {base : Heap}
/-! ### told_of -/
theorem toldL_len (l acc : List Tt) : (toldL acc l).length = acc.length + l.length := by
  rw [(toldL_perm l acc).length_eq, List.length_append, List.length_map]
theorem depthL_iff : ∀ {l : List Tt} {n : Nat}, depthL l ≤ n ↔ ∀ x, x ∈ l → depth x + 1 ≤ n
  | [], n => by simp [depthL]
  | x :: l, n => by
    rw [depthL]
    have ih := depthL_iff (l := l) (n := n)
    constructor
    · intro h y hy
      rcases List.mem_cons.mp hy with e | hy
      · rw [e]; omega
      · exact ih.mp (by omega) y hy
    · intro h
      have h1 := h x List.mem_cons_self
      have h2 := ih.mpr fun y hy => h y (List.mem_cons_of_mem _ hy)
      omega
theorem mem_toldL {l : List Tt} {x : Tt} (h : x ∈ toldL [] l) : ∃ y, y ∈ l ∧ x = told y := by
  have := (toldL_perm l []).mem_iff.mp h
  rw [List.nil_append] at this
  obtain ⟨y, hy, e⟩ := List.mem_map.mp this
  exact ⟨y, hy, e.symm⟩
theorem depth_told_le (t : Tt) : depth (told t) ≤ depth t := by
  induction t using Tt.ind with
  | h l ih =>
    rw [told_mk, depth, depth]
    refine depthL_iff.mpr fun x hx => ?_
    obtain ⟨y, hy, e⟩ := mem_toldL hx
    subst e
    have := ih y hy
    have := depthL_le hy
    omega
theorem fit_told (t : Tt) (h : fit t) : fit (told t) := by
  induction t using Tt.ind with
  | h l ih =>
    rw [told_mk, fit_mk]
    refine ⟨by rw [toldL_len]; have := fit_len h; simp only [List.length_nil]; omega, fitL_iff.mpr fun x hx => ?_⟩
    obtain ⟨y, hy, e⟩ := mem_toldL hx
    subst e
    exact ih y hy (fit_bs h hy)
theorem depth_told {t : Tt} {n : Nat} (h : depth t < n) : depth (told t) < n := Nat.lt_of_le_of_lt (depth_told_le t) h
theorem toldL_more {l : List Tt} {i : Nat} {b : Tt} (h : l[i]? = some b) : toldL [] (l.take (i + 1)) = merge (toldL [] (l.take i)) [told b] := by
  rw [take_more h, toldL_append, toldL_cons, toldL_nil, merge_one]
def spToldOf (n : Nat) : Sp := fun vs H Q _ => ∃ (v : V) (t : Tt), vs = [v] ∧ TreeAt H v t ∧ fit t ∧ depth t < n ∧ ∀ H' r, New H H' r (told t) → Q r H'
theorem ok_told_of (T : Txt K mg) : ∀ n, FnOk P w K mg base CX0 (n + 2) T.a_told_of T.d_told_of ["tree"] (spToldOf n)
  | 0 => none_left fun vs H Q E ⟨v, t, _, _, _, h, _⟩ => by omega
  | n + 1 => by
    have G_told_of := ok_told_of T n
    have G_merged := ok_merged (P := P) (w := w) (base := base) T n
    refine T.F_told_of.ok sc_told_of (fun vs H Q E h => ?_) (fun cdv A outer s H vs Q E hr h => ?_)
    · obtain ⟨v, t, rfl, _⟩ := h; rfl
    obtain ⟨v, ⟨bs⟩, rfl, ht, hf, hd, q⟩ := h
    have R_told_of : Room (n + 2) _ := hr
    have R_merged : Room (n + 1) _ := hr.mono (by omega)
    rw [treeAt_mk] at ht
    rw [told_mk] at q
    obtain ⟨a, xs, rfl, ha, hbs⟩ := ht
    have flen := fit_len hf
    refine ⟨_, (pss_cons (ps_set (i := 1) sc_told_of.nd rfl (Or.inl rfl) (pe_lst pa_nil))
      (pss_cons (ps_for PassesOwn.never rfl (pi_list (pv 0)) (pg_name (i := 2) sc_told_of.nd rfl (Or.inl rfl)) (pss_one (ps_set (i := 1) sc_told_of.nd rfl (Or.inl rfl) (pe_call G_merged R_merged rfl T.m_merged T.k_merged T.b_merged .nil pass0 (pa_cons (pv 1) (pa_cons (pe_lst (pa_cons (pe_call G_told_of R_told_of rfl T.m_told_of T.k_told_of T.b_told_of .nil pass0 (pa_cons (pv 2) pa_nil)) pa_nil)) pa_nil))))))
      (pss_one (ps_ret (pv 1))))), ?_⟩
    refine ⟨(by show 0 ≤ sizeLine; decide), fun D nD => ?_⟩
    refine ⟨_, rfl, a, rfl, ⟨xs, SqL.of (same_new nD _ _ _ ha)⟩, ?_⟩
    refine for_it (walk_list (xs := xs)) (fun i σ H' => ∃ r o, σ = [some (.ref a), some r, o] ∧ New H H' r (.mk (toldL [] (bs.take i)))) ⟨_, none, rfl, (Grow.start nD).done⟩ (fun i σ H' _ p => ?_) ?_ ?_
    · obtain ⟨r, o, _, nw⟩ := p
      exact SqL.of (nw.1 _ _ ha)
    · rintro i x σ H1 H2 hi ⟨r, o, rfl, nw⟩ ⟨rfl, hx⟩
      obtain ⟨b, hb, hxb⟩ := hbs.get hx
      have mb := List.mem_of_getElem? hb
      have hib := (List.getElem?_eq_some_iff.mp hb).1
      refine ⟨_, rfl, _, rfl, x, b, rfl, TreeAt.same nw.1 b hxb, fit_bs hf mb, depth_bs hd mb, fun H3 r2 nw2 => ?_⟩
      refine ⟨(by show 1 ≤ sizeLine; decide), fun p np => ?_⟩
      have s4 : Same H3 (upd H3 p (.lst [r2])) := same_new np _
      have fl1 : fitL (toldL [] (bs.take i)) := fitL_iff.mpr fun y hy => by
        obtain ⟨z, hz, e⟩ := mem_toldL hy
        rw [e]
        exact fit_told z (fit_bs hf (List.mem_of_mem_take hz))
      have dl1 : ∀ y, y ∈ toldL [] (bs.take i) → depth y < n := fun y hy => by
        obtain ⟨z, hz, e⟩ := mem_toldL hy
        rw [e]
        exact depth_told (depth_bs hd (List.mem_of_mem_take hz))
      refine ⟨r, .ref p, toldL [] (bs.take i), [told b], rfl, TreeAt.same (nw2.1.trans s4) _ nw.at_, ?_, fl1, ?_, ?_, dl1, ?_, fun H5 r3 nw3 => ?_⟩
      · rw [treeAt_mk]
        exact ⟨p, [r2], rfl, upd_same, TreesAt.one (TreeAt.same s4 _ nw2.at_)⟩
      · exact fitL_iff.mpr fun y hy => by
          rw [List.mem_singleton] at hy
          rw [hy]
          exact fit_told b (fit_bs hf mb)
      · rw [toldL_len, List.length_take, List.length_singleton, List.length_nil]
        omega
      · intro y hy
        rw [List.mem_singleton] at hy
        rw [hy]
        exact depth_told (depth_bs hd mb)
      · refine ⟨r3, some x, rfl, ?_⟩
        rw [toldL_more hb]
        exact nw3.of (nw.1.trans (nw2.1.trans s4))
    · rintro σ H1 ⟨r, o, rfl, nw⟩
      rw [hbs.len, List.take_length] at nw
      exact ⟨_, rfl, q _ _ nw⟩
/-! ### knots -/
def spKnots (n : Nat) : Sp := fun vs H Q _ => ∃ (v : V) (t : Tt), vs = [v] ∧ TreeAt H v t ∧ fit t ∧ depth t < n ∧ ∀ H', Same H H' → Q (.int (knots t)) H'
theorem knotsL_sum : ∀ l : List Tt, ((l.map fun x => (knots x : Int)).sum : Int) = knotsL l
  | [] => by simp [knotsL]
  | x :: l => by rw [List.map_cons, List.sum_cons, knotsL_sum l, knotsL]; omega
/-- a new list at D that holds what f says of the branches gone through -/
def Fill (H H' : Hp) (D : Addr) (vs : List V) : Prop := Same H H' ∧ H D = none ∧ H' D = some (.lst vs)
theorem Fill.start {H : Hp} {D : Addr} (h : H D = none) : Fill H (upd H D (.lst [])) D [] := ⟨same_new h _, h, upd_same⟩
theorem Fill.more {H H' H2 : Hp} {D : Addr} {vs : List V} {v : V} (g : Fill H H' D vs) (s : Same H' H2) : H2 D = some (.lst vs) ∧ Fill H (upd H2 D (.lst (vs ++ [v]))) D (vs ++ [v]) :=
  ⟨s _ _ g.2.2, fun b u q => by rw [upd_ne (ne_of_none q g.2.1)]; exact s _ _ (g.1 _ _ q), g.2.1, upd_same⟩
end
section
variable {P : Program} {w : World} {K : PySem.W.Frag} {mg : Str → Option Value} {base : Heap}
/-! ### is_tree -/
/-- all but l is kept -/
def Kept (l : Addr) (H H' : Hp) : Prop := ∀ b o, b ≠ l → H b = some o → H' b = some o
def spIsTree (n : Nat) : Sp := fun vs H Q _ => ∃ (H0 : Hp) (v : V) (th : Th) (d : Nat) (L : Int) (l : Addr), vs = [v, .int d, .ref l] ∧ ThAt H0 v th ∧ Same H0 H ∧ H0 l = none ∧ H l = some (.lst [.int L]) ∧ fitTh th ∧ 42 ≤ d + n ∧ d ≤ 41 ∧
  ∀ H', Kept l H H' → H' l = some (.lst [.int (isT th d L).2]) → Q (.bl (isT th d L).1) H'
theorem Kept.same {H0 H H' : Hp} {l : Addr} (k : Kept l H H') (s : Same H0 H) (n : H0 l = none) : Same H0 H' := fun b o e => k b o (ne_of_none e n) (s b o e)
theorem ok_is_tree (T : Txt K mg) : ∀ n, FnOk P w K mg base CX0 n T.a_is_tree T.d_is_tree ["thing", "depth", "left"] (spIsTree n)
  | 0 => none_left fun vs H Q E ⟨H0, v, th, d, L, l, _, _, _, _, _, _, h1, h2, _⟩ => by omega
  | n + 1 => by
    have G_is_tree := ok_is_tree T n
    refine T.F_is_tree.ok sc_is_tree (fun vs H Q E h => ?_) (fun cdv A outer s H vs Q E hr h => ?_)
    · obtain ⟨H0, v, th, d, L, l, rfl, _⟩ := h; rfl
    obtain ⟨H0, v, th, d, L, l, rfl, ht, s0, nl, hl, hf, hn, hd, q⟩ := h
    have R_is_tree : Room n _ := hr
    have ht1 := ThAt.same s0 th ht
    refine ⟨_, (pss_cons (ps_if (PW.pt (pw_or (pt_not (pt_val (pe_callB (r := rIsi K) call_isi (by rfl) T.z_isinstance (by decide +kernel) (pa_cons (pv 0) (pa_cons (pe_bltn (v := .ty "list") (u := .type "list") (by rfl) T.z_list (by decide +kernel) rfl) pa_nil))))) (pw_or (pt_cmpR op_gt (pv 1) (pe_glob (v := .int 40) rfl T.c_DEEPEST ⟨_, rfl⟩) (nomark _)) (pw_or1 (pt_cmpR op_lt (pe_ix (r := rIxL K) ix_list (pv 2) pe_int (fun _ _ => rfl)) pe_int (nomark _)))))) (pss_one (ps_ret pe_bl)) pss_nil)
      (pss_cons (ps_asg (pe_op op_sub (pe_ix (r := rIxL K) ix_list (pv 2) pe_int (fun _ _ => rfl)) pe_int) (pg_sub (pv 2) pe_int set_list))
      (pss_one (ps_ret (pe_callB (r := rAll K) (cr_all rfl) (by rfl) T.z_all (by decide +kernel) (pa_cons (pe_lc (own := [("branch", 3)]) (g := gName 3) (tt := tYes) rfl sc_is_tree.nd (pi_list (pv 0)) (blkOk_by (own := [("branch", 3)]) (N := ["thing", "depth", "left", "branch"]) (sc := defScope s_is_tree) (by decide +kernel)) (fun _ _ _ _ _ => (pg_name (i := 3) sc_is_tree.nd rfl (Or.inl rfl))) (fun _ _ _ _ _ => pts_nil) (fun _ _ _ _ _ => (pe_call G_is_tree R_is_tree rfl T.m_is_tree T.k_is_tree T.b_is_tree .nil pass0 (pa_cons (pv 3) (pa_cons (pe_op op_add (pv 1) pe_int) (pa_cons (pv 2) pa_nil)))))) pa_nil)))))), ?_⟩
    cases th with
    | no =>
      rw [thAt_no] at ht1
      obtain ⟨ty, h1, h2⟩ := Leaf.isi (K := K) ht1
      refine ⟨_, rfl, _, _, ty, _, false, rfl, ClsV.ty _, h1, h2, _, rfl, iteT ?_⟩
      refine iteT ?_
      rw [isT_no] at q
      exact q H (fun _ _ _ e => e) hl
    | li bs =>
      rw [thAt_li] at ht ht1
      obtain ⟨a, xs, rfl, ha0, hbs0⟩ := ht
      obtain ⟨a', xs', ea, ha, hbs⟩ := ht1
      cases ea
      have exs : xs' = xs := by have := s0 _ _ ha0; rw [this] at ha; injection ha with ha; injection ha with ha; exact ha.symm
      subst exs
      rw [fitTh_li] at hf
      obtain ⟨h1, h2⟩ := list_isi (K := K) ha
      refine ⟨_, rfl, _, _, _, _, true, rfl, ClsV.ty _, h1, h2, _, rfl, iteF ?_⟩
      refine cut_t (fun b H' => H' = H ∧ b = decide (40 < d ∨ L < 1)) (fun Q' hQ' => ?_) ?_
      · refine ⟨_, rfl, _, _, rfl, rfl, _, rfl, ?_⟩
        refine ite2 (fun c => ?_) (fun c => ?_)
        · have c' : (40 : Int) < (d : Int) := of_decide_eq_true c
          exact hQ' _ _ ⟨rfl, (decide_eq_true (by omega)).symm⟩
        · have c' : ¬ (40 : Int) < (d : Int) := of_decide_eq_false (Bool.eq_false_iff.mpr c)
          refine ⟨_, rfl, l, _, 0, _, rfl, rfl, SqL.of hl, rfl, _, _, rfl, rfl, _, rfl, hQ' _ _ ⟨rfl, ?_⟩⟩
          refine decide_eq_decide.mpr ?_
          omega
      rintro b1 H1 ⟨rfl, rfl⟩
      rw [isT_li] at q
      refine ite2 (fun c => ?_) (fun c => ?_)
      · rw [if_pos (of_decide_eq_true c)] at q
        exact q H1 (fun _ _ _ e => e) hl
      · have c' := of_decide_eq_false (Bool.eq_false_iff.mpr c)
        rw [if_neg c'] at q
        -- left[0] = left[0] - 1
        refine ⟨_, rfl, l, _, 0, _, rfl, rfl, SqL.of hl, rfl, _, _, rfl, rfl, _, rfl, l, _, 0, 0, rfl, rfl, hl, rfl, ?_⟩
        have k1 : Kept l H1 (upd H1 l (.lst ([V.int L].set 0 (.int (L - 1))))) := fun b o nb e => by rw [upd_ne nb]; exact e
        have l1 : (upd H1 l (.lst ([V.int L].set 0 (.int (L - 1))))) l = some (.lst [.int (L - 1)]) := upd_same
        generalize upd H1 l (.lst ([V.int L].set 0 (.int (L - 1)))) = H2 at k1 l1 ⊢
        have s2 : Same H0 H2 := k1.same s0 nl
        refine ⟨_, rfl, a, rfl, ⟨xs', SqL.of (s2 _ _ ha0)⟩, fun D nD => ?_⟩
        have nDl : D ≠ l := fun e => by rw [e, l1] at nD; cases nD
        refine lc_it (walk_list (xs := xs')) (fun i H' => Kept l H2 H' ∧ H' l = some (.lst [.int (isTl (bs.take i) (d + 1) (L - 1)).2]) ∧ H' D = some (.lst ((isTl (bs.take i) (d + 1) (L - 1)).1.map V.bl))) ?_ (fun i H' _ g => SqL.of (g.1.same s2 nl _ _ ha0)) ?_ ?_
        · refine ⟨fun b o nb e => by rw [upd_ne (ne_of_none e nD)]; exact e, ?_, ?_⟩
          · rw [upd_ne (Ne.symm nDl), List.take_zero, isTl_nil]; exact l1
          · rw [upd_same, List.take_zero, isTl_nil]; rfl
        · rintro i x H3 H4 hi ⟨g1, g2, g3⟩ ⟨rfl, hx⟩
          obtain ⟨b, hb, hxb⟩ := hbs0.get hx
          have mb := List.mem_of_getElem? hb
          have hib := (List.getElem?_eq_some_iff.mp hb).1
          refine ⟨rfl, _, rfl, _, rfl, _, _, rfl, rfl, _, rfl, H0, x, b, d + 1, _, l, rfl, hxb, g1.same s2 nl, nl, g2, fitThL_mem hf.2 b mb, by omega, by omega, fun H5 k5 l5 => ?_⟩
          refine ⟨_, k5 _ _ nDl g3, ?_, fun b o nb e => ?_, ?_, ?_⟩
          · rw [List.length_map, isTl_len, List.length_take]
            exact lim_line (by omega)
          · by_cases hD : b = D
            · rw [hD] at e; rw [nD] at e; cases e
            · rw [upd_ne hD]; exact k5 _ _ nb (g1 _ _ nb e)
          · rw [upd_ne (Ne.symm nDl), take_more hb, isTl_snoc]; exact l5
          · rw [upd_same, take_more hb, isTl_snoc, List.map_append]; rfl
        · rintro H3 ⟨g1, g2, g3⟩
          have e1 : bs.take xs'.length = bs := by rw [hbs.len, List.take_length]
          rw [e1] at g2 g3
          exact ⟨D, _, rfl, SqL.of g3, q H3 (fun b o nb e => g1 b o nb (k1 b o nb e)) g2⟩
/-! ### asked_tree -/
def spAskedTree (A : Addr) : Sp := fun vs H Q E => ∃ v, vs = [v] ∧ ((∃ t, TreeAt H v t ∧ okT t ∧ ∀ H', Same H H' → Q .non H') ∨ (Bad H v ∧ ∀ H', Same H H' → E (.ref A) none H'))
theorem ok_asked_tree (T : Txt K mg) : FnOk P w K mg base (L2N.CX P w) 43 T.a_asked_tree T.d_asked_tree ["tree"] (spAskedTree T.A_BadTree) := by
  have G_is_tree := ok_is_tree (P := P) (w := w) (base := base) T 42
  refine okN T.F_asked_tree sc_asked_tree (fun vs H Q E h => ?_) (fun cdv A outer s H vs Q E hr h => ?_)
  · obtain ⟨v, rfl, _⟩ := h; rfl
  obtain ⟨v, rfl, h⟩ := h
  have R_is_tree : Room 42 _ := hr
  refine ⟨_, (pss_one (ps_if (pt_not (pt_val (pe_call G_is_tree R_is_tree rfl T.m_is_tree T.k_is_tree T.b_is_tree .nil pass0 (pa_cons (pv 0) (pa_cons pe_int (pa_cons (pe_lst (pa_cons (pe_glob (v := .int 300) rfl T.c_MOST ⟨_, rfl⟩) pa_nil)) pa_nil)))))) (pss_one (L2N.ps_raise rfl (L2N.takes_of rfl rfl rfl rfl) (L2N.pmk_own PySem.F.excBase_ValueError T.x_BadTree T.g_BadTree T.k_BadTree (raises_own T.sb_BadTree T.tt_BadTree) (by exact rfl)))) pss_nil)), ?_⟩
  have sLen : ([V.int 300] : List V).length ≤ sizeLine := by decide
  rcases h with ⟨t, ht, ho, q⟩ | ⟨⟨th, ht, hf, hb⟩, q⟩
  · refine ⟨_, rfl, sLen, fun l nl => ?_⟩
    refine ⟨H, v, toTh t, 0, 300, l, rfl, TreeAt.th t ht, same_new nl _, nl, upd_same, fit_toTh t ho.fit, by omega, by omega, fun H' k1 k2 => ?_⟩
    have e := isT_tree t 0 300 ho.2 (by have := ho.1; omega)
    rw [e]
    refine ⟨_, rfl, iteF (q _ ?_)⟩
    exact k1.same (same_new nl _) nl
  · refine ⟨_, rfl, sLen, fun l nl => ?_⟩
    refine ⟨H, v, th, 0, 300, l, rfl, ht, same_new nl _, nl, upd_same, hf, by omega, by omega, fun H' k1 k2 => ?_⟩
    rw [hb]
    exact ⟨_, rfl, iteT (q _ (k1.same (same_new nl _) nl))⟩
end
section
variable {P : Program} {w : World} {K : PySem.W.Frag} {mg : Str → Option Value} {base : Heap}
/-! ### _law_number: some number of not too many bits -/
def NB : Nat := 1050000
def spLawNumber : Sp := fun vs H Q _ => ∃ (c wh : Int) (at_ : Nat), vs = [.int c, .int at_, .int wh] ∧ Bits c NB ∧ Bits wh NB ∧ at_ ≤ 1000 ∧ ∀ z, Bits z 2200000 → Q (.int z) H
theorem ok__law_number (T : Txt K mg) : FnOk P w K mg base CX0 1 T.a__law_number T.d__law_number ["_law_cell", "_law_at", "_law_whole"] spLawNumber := by
  refine T.F__law_number.ok sc__law_number (fun vs H Q E h => ?_) (fun cdv A outer s H vs Q E hr h => ?_)
  · obtain ⟨c, wh, at_, rfl, _⟩ := h; rfl
  obtain ⟨c, wh, at_, rfl, hc, hw, hat, q⟩ := h
  have bat : Bits (at_ : Int) 10 := Bits.lt (n := 1024) (by omega) (by omega) (by decide)
  refine ⟨_, (pss_cons (ps_if (pt_cmpR op_ge (pv 0) (pe_op op_pow pe_int pe_int) (nomark _)) (pss_one (ps_ret (pe_op op_fdivW (pv 0) (pe_op op_add pe_int (pe_op op_mod (pv 1) pe_int))))) pss_nil)
      (pss_cons (ps_set (i := 3) sc__law_number.nd rfl (Or.inl rfl) (pe_op op_mod (pe_op op_add (pe_op op_mulX (pe_op op_add (pv 0) (pe_op op_mulX pe_int (pv 1))) pe_int) (pv 2)) pe_int))
      (pss_cons (ps_set (i := 4) sc__law_number.nd rfl (Or.inl rfl) (pe_op op_mulX (pv 3) (pe_op op_add (pe_op op_add (pv 0) (pe_op op_mulX pe_int (pv 1))) pe_int)))
      (pss_one (ps_ret (pe_op op_fdivW (pe_op op_mulX (pe_op op_mulX (pv 4) (pe_op op_add (pe_op op_add (pv 3) (pv 0)) pe_int)) (pe_op op_add (pe_op op_mulX (pv 3) (pv 3)) pe_int)) (pe_op op_add pe_int (pv 1)))))))), ?_⟩
  refine ⟨_, rfl, _, _, rfl, rfl, (by exact ⟨by decide, by decide, by decide⟩), _, _, rfl, rfl, _, rfl, ?_⟩
  refine ite2 (fun _ => ?_) (fun _ => ?_)
  · have m0 : 0 ≤ (at_ : Int) % 7 := Int.emod_nonneg _ (by decide)
    have m1 : (at_ : Int) % 7 < 7 := Int.emod_lt_of_pos _ (by decide)
    have e : ∀ x : Int, 0 ≤ x → x < 7 → CDivW c (1 + x) := fun x h0 h1 => wide_div (b := 4) (by omega) (by show (1 + x).natAbs < 16; omega) (by decide) (by decide)
    exact ⟨_, rfl, _, rfl, _, _, rfl, rfl, (by show (0 : Int) < 7; decide), _, _, rfl, rfl, _, _, rfl, rfl, e _ m0 m1, q _ ((hc.div).mono (by decide))⟩
  · have b1 : Bits (977 * (at_ : Int)) 20 := Bits.mul (a := 10) (b := 10) (by show (977 : Nat) < 1024; decide) bat
    have b2 : Bits (c + 977 * (at_ : Int)) (NB + 1) := hc.add (b1.mono (by decide))
    have b3 : Bits ((c + 977 * (at_ : Int)) * 48271) (NB + 1 + 16) := b2.mul (b := 16) (by show (48271 : Nat) < 65536; decide)
    refine ⟨_, rfl, _, rfl, _, _, rfl, rfl, Bits.mulX (a := 10) (b := 10) (by show (977 : Nat) < 1024; decide) bat (by decide), _, _, rfl, rfl, _, _, rfl, rfl, b2.mulX (b := 16) (by show (48271 : Nat) < 65536; decide) (by decide), _, rfl, _, _, rfl, rfl, _, _, rfl, rfl, (by show (0 : Int) < 2147483647; decide), ?_⟩
    have m0 : 0 ≤ ((c + 977 * (at_ : Int)) * 48271 + wh) % 2147483647 := Int.emod_nonneg _ (by decide)
    have m1 : ((c + 977 * (at_ : Int)) * 48271 + wh) % 2147483647 < 2147483647 := Int.emod_lt_of_pos _ (by decide)
    show tSeq _ _ _ [_, _, _, some (V.int (((c + 977 * (at_ : Int)) * 48271 + wh) % 2147483647)), _] H
    generalize ((c + 977 * (at_ : Int)) * 48271 + wh) % 2147483647 = m at m0 m1 ⊢
    have bm : Bits m 31 := Bits.lt (n := 2147483647) m0 m1 (by decide)
    have b4 : Bits (31 * (at_ : Int)) 15 := Bits.mul (a := 5) (b := 10) (by show (31 : Nat) < 32; decide) bat
    have b5 : Bits (c + 31 * (at_ : Int)) (NB + 1) := hc.add (b4.mono (by decide))
    have b6 : Bits (c + 31 * (at_ : Int) + 7) (NB + 2) := b5.add (Bits.mono (a := 3) (by show (7 : Nat) < 8; decide) (by decide))
    refine ⟨_, rfl, _, rfl, _, rfl, _, _, rfl, rfl, Bits.mulX (a := 5) (b := 10) (by show (31 : Nat) < 32; decide) bat (by decide), _, _, rfl, rfl, _, _, rfl, rfl, _, _, rfl, rfl, bm.mulX b6 (by decide), ?_⟩
    have b7 : Bits (m * (c + 31 * (at_ : Int) + 7)) (31 + (NB + 2)) := bm.mul b6
    have b8 : Bits (m + c) (NB + 1) := (bm.mono (by decide)).add hc
    have b9 : Bits (m + c + 5) (NB + 2) := b8.add (Bits.mono (a := 3) (by show (5 : Nat) < 8; decide) (by decide))
    have b10 : Bits (m * m) 62 := bm.mul bm
    have b11 : Bits (m * m + 11) 63 := b10.add (Bits.mono (a := 4) (by show (11 : Nat) < 16; decide) (by decide))
    have b12 := b7.mul b9
    have b13 := b12.mul b11
    have cd : CDivW (m * (c + 31 * (at_ : Int) + 7) * (m + c + 5) * (m * m + 11)) (1009 + (at_ : Int)) := wide_div (b := 12) (by omega) (by show (1009 + (at_ : Int)).natAbs < 4096; omega) (by decide) (by decide)
    exact ⟨_, rfl, _, rfl, _, rfl, _, _, rfl, rfl, _, _, rfl, rfl, _, _, rfl, rfl, b7.mulX b9 (by decide), _, rfl, _, rfl, _, _, rfl, rfl, bm.mulX bm (by decide), _, _, rfl, rfl, _, _, rfl, rfl, b12.mulX b11 (by decide), _, rfl, _, _, rfl, rfl, _, _, rfl, rfl, cd, q _ (b13.div.mono (by decide))⟩
/-! ### _law_more: as compared -/
def spLawMore (n : Nat) : Sp := fun vs H Q _ => ∃ (v u : V) (t s : Tt), vs = [v, u] ∧ TreeAt H v t ∧ TreeAt H u s ∧ fit t ∧ depth t < n ∧ ∀ H', Same H H' → Q (.int (cmp t s)) H'
theorem min_ite (i j : Nat) : (if (j : Int) < (i : Int) then (j : Int) else (i : Int)) = ((min i j : Nat) : Int) := by
  by_cases h : j < i
  · rw [if_pos (by omega)]; omega
  · rw [if_neg (by omega)]; omega
theorem ok__law_more (T : Txt K mg) : ∀ n, FnOk P w K mg base CX0 n T.a__law_more T.d__law_more ["_law_one", "_law_other"] (spLawMore n)
  | 0 => none_left fun vs H Q E ⟨v, u, t, s, _, _, _, _, h, _⟩ => by omega
  | n + 1 => by
    have G__law_more := ok__law_more T n
    refine T.F__law_more.ok sc__law_more (fun vs H Q E h => ?_) (fun cdv A outer s H vs Q E hr h => ?_)
    · obtain ⟨v, u, t, s, rfl, _⟩ := h; rfl
    obtain ⟨v, u, ⟨bs⟩, ⟨cs⟩, rfl, ht, hu, hf, hd, q⟩ := h
    have R__law_more : Room n _ := hr
    rw [treeAt_mk] at ht hu
    obtain ⟨a, xs, rfl, ha, hbs⟩ := ht
    obtain ⟨b, ys, rfl, hb, hcs⟩ := hu
    rw [cmp_mk] at q
    have el := hbs.len
    have em := hcs.len
    have lb : min xs.length ys.length ≤ lim := Nat.le_trans (Nat.min_le_left _ _) (by rw [el]; exact fit_len hf)
    have l62 : (lim : Int) < 2 ^ 62 := by decide
    refine ⟨_, (pss_cons (ps_for PassesOwn.never rfl (pi_range1 (by rfl) T.z_range (pa_cons (pe_callB (call_min2 rfl) (by rfl) T.z_min (by decide +kernel) (pa_cons (pe_callB (r := rLenS K) call_len_seqK rfl T.z_len PySem.boot_len (pa_cons (pv 0) pa_nil)) (pa_cons (pe_callB (r := rLenS K) call_len_seqK rfl T.z_len PySem.boot_len (pa_cons (pv 1) pa_nil)) pa_nil))) pa_nil)) (pg_name (i := 2) sc__law_more.nd rfl (Or.inl rfl)) (pss_cons (ps_set (i := 3) sc__law_more.nd rfl (Or.inl rfl) (pe_call G__law_more R__law_more rfl T.m__law_more T.k__law_more T.b__law_more .nil pass0 (pa_cons (pe_ix (r := rIxL K) ix_list (pv 0) (pv 2) (fun _ _ => rfl)) (pa_cons (pe_ix (r := rIxL K) ix_list (pv 1) (pv 2) (fun _ _ => rfl)) pa_nil))))
        (pss_one (ps_if (pt_cmpR op_ne (pv 3) pe_int (nomark _)) (pss_one (ps_ret (pv 3))) pss_nil))))
      (pss_one (ps_ret (pe_op op_sub (pe_callB (r := rLenS K) call_len_seqK rfl T.z_len PySem.boot_len (pa_cons (pv 0) pa_nil)) (pe_callB (r := rLenS K) call_len_seqK rfl T.z_len PySem.boot_len (pa_cons (pv 1) pa_nil)))))), ?_⟩
    refine ⟨_, rfl, a, _, rfl, .inl (SqL.of ha), _, rfl, b, _, rfl, .inl (SqL.of hb), _, _, rfl, ?_⟩
    rw [min_ite]
    refine ⟨_, rfl, by omega, by omega, ?_⟩
    rw [Int.toNat_natCast]
    refine for_range (fun i σ H' => Same H H' ∧ cmpL bs cs = cmpL (bs.drop i) (cs.drop i) ∧ ∃ m f, σ = [some (.ref a), some (.ref b), m, f]) ⟨Same.refl H, by simp, none, none, rfl⟩ ?_ ?_
    · rintro i σ H1 hi ⟨s1, e1, m, f, rfl⟩
      have hi1 : i < bs.length := by omega
      have hi2 : i < cs.length := by omega
      obtain ⟨x, hx, hxt⟩ := hbs.get' (List.getElem?_eq_getElem hi1)
      obtain ⟨y, hy, hyt⟩ := hcs.get' (List.getElem?_eq_getElem hi2)
      have ez : (0 : Int) + (i : Int) = (i : Int) := by omega
      rw [ez]
      refine ⟨_, rfl, _, rfl, a, xs, _, _, rfl, rfl, SqL.of (s1 _ _ ha), atI_nat hx, _, rfl, _, rfl, b, ys, _, _, rfl, rfl, SqL.of (s1 _ _ hb), atI_nat hy, x, y, bs[i], cs[i], rfl, TreeAt.same s1 _ hxt, TreeAt.same s1 _ hyt, fit_bs hf (List.getElem_mem hi1), depth_bs hd (List.getElem_mem hi1), fun H3 s3 => ?_⟩
      rw [drop_get (List.getElem?_eq_getElem hi1), drop_get (List.getElem?_eq_getElem hi2), cmpL_cons] at e1
      refine ⟨_, rfl, rfl, _, rfl, ?_⟩
      refine ite2 (fun c => ?_) (fun c => ?_)
      · have c' : cmp bs[i] cs[i] ≠ 0 := fun z => by simp [z] at c
        rw [if_pos c'] at e1
        exact ⟨_, rfl, by rw [← e1]; exact q _ (s1.trans s3)⟩
      · have c' : ¬ cmp bs[i] cs[i] ≠ 0 := fun z => c (by simp [z])
        rw [if_neg c'] at e1
        exact ⟨s1.trans s3, e1, _, _, rfl⟩
    · rintro σ H1 ⟨s1, e1, m, f, rfl⟩
      refine ⟨_, rfl, a, _, rfl, .inl (SqL.of (s1 _ _ ha)), _, rfl, b, _, rfl, .inl (SqL.of (s1 _ _ hb)), _, _, rfl, rfl, ?_⟩
      rw [el, em] at e1
      show Q (.int ((xs.length : Int) - (ys.length : Int))) H1
      rw [el, em, ← cmpL_end rfl, ← e1]
      exact q _ s1
/-! ### _law_told: as told_of, by insertion -/
/-- how many of the first ones are worth no less -/
def insK (x : Tt) : List Tt → Nat
  | [] => 0
  | y :: l => if 0 ≤ cmp y x then insK x l + 1 else 0
theorem insK_le (x : Tt) : ∀ l, insK x l ≤ l.length
  | [] => Nat.le_refl _
  | y :: l => by
    unfold insK
    split
    · exact Nat.succ_le_succ (insK_le x l)
    · exact Nat.zero_le _
theorem ins_at (x : Tt) : ∀ l, ins x l = l.take (insK x l) ++ x :: l.drop (insK x l)
  | [] => rfl
  | y :: l => by
    unfold ins insK
    split
    · rw [List.take_succ_cons, List.drop_succ_cons, List.cons_append, ← ins_at x l]
    · rfl
theorem insK_get (x : Tt) : ∀ (l : List Tt) (i : Nat) (y : Tt), l[i]? = some y → i ≤ insK x l → (0 ≤ cmp y x → i < insK x l) ∧ (cmp y x < 0 → i = insK x l)
  | [], i, y, h, _ => by simp at h
  | z :: l, 0, y, h, _ => by
    have e : z = y := Option.some.inj (by simpa using h)
    subst e
    unfold insK
    by_cases c : 0 ≤ cmp z x
    · rw [if_pos c]; exact ⟨fun _ => by omega, fun h => by omega⟩
    · rw [if_neg c]; exact ⟨fun h => absurd h c, fun _ => rfl⟩
  | z :: l, i + 1, y, h, hi => by
    unfold insK at hi ⊢
    by_cases c : 0 ≤ cmp z x
    · rw [if_pos c] at hi ⊢
      have ih := insK_get x l i y (by simpa using h) (by omega)
      exact ⟨fun q => by have := ih.1 q; omega, fun q => by have := ih.2 q; omega⟩
    · rw [if_neg c] at hi; omega
theorem ok__law_told (T : Txt K mg) : ∀ n, FnOk P w K mg base CX0 (n + 1) T.a__law_told T.d__law_told ["_law_tree_here"] (spToldOf n)
  | 0 => none_left fun vs H Q E ⟨v, t, _, _, _, h, _⟩ => by omega
  | n + 1 => by
    have G__law_told := ok__law_told T n
    have G__law_more := ok__law_more (P := P) (w := w) (base := base) T n
    refine T.F__law_told.ok sc__law_told (fun vs H Q E h => ?_) (fun cdv A outer s H vs Q E hr h => ?_)
    · obtain ⟨v, t, rfl, _⟩ := h; rfl
    obtain ⟨v, ⟨bs⟩, rfl, ht, hf, hd, q⟩ := h
    have R__law_told : Room (n + 1) _ := hr
    have R__law_more : Room n _ := hr.mono (by omega)
    rw [treeAt_mk] at ht
    rw [told_mk] at q
    obtain ⟨a, xs, rfl, ha, hbs⟩ := ht
    have flen := fit_len hf
    refine ⟨_, (pss_cons (ps_set (i := 1) sc__law_told.nd rfl (Or.inl rfl) (pe_lst pa_nil))
      (pss_cons (ps_for PassesOwn.never rfl (pi_list (pe_lc (own := [("_law_branch", 2)]) (g := gName 2) (tt := tYes) rfl sc__law_told.nd (pi_list (pv 0)) (blkOk_by (own := [("_law_branch", 2)]) (N := ["_law_tree_here", "_law_found", "_law_branch", "_law_at"]) (sc := defScope s__law_told) (by decide +kernel)) (fun _ _ _ _ _ => (pg_name (i := 2) sc__law_told.nd rfl (Or.inl rfl))) (fun _ _ _ _ _ => pts_nil) (fun _ _ _ _ _ => (pe_call G__law_told R__law_told rfl T.m__law_told T.k__law_told T.b__law_told .nil pass0 (pa_cons (pv 2) pa_nil))))) (pg_name (i := 2) sc__law_told.nd rfl (Or.inl rfl)) (pss_cons (ps_set (i := 3) sc__law_told.nd rfl (Or.inl rfl) pe_int)
        (pss_cons (ps_while PassesOwn.never (PW.pt (pw_and (pt_cmpR op_lt (pv 3) (pe_callB (r := rLenS K) call_len_seqK rfl T.z_len PySem.boot_len (pa_cons (pv 1) pa_nil)) (nomark _)) (pw_and1 (pt_cmpR op_ge (pe_call G__law_more R__law_more rfl T.m__law_more T.k__law_more T.b__law_more .nil pass0 (pa_cons (pe_ix (r := rIxL K) ix_list (pv 1) (pv 3) (fun _ _ => rfl)) (pa_cons (pv 2) pa_nil))) pe_int (nomark _))))) (pss_one (ps_set (i := 3) sc__law_told.nd rfl (Or.inl rfl) (pe_op op_add (pv 3) pe_int))))
        (pss_one (ps_expr (pe_bm PySem.F.plainAttrs_list PySem.F.slot_list_insert PySem.F.type_list_insert mt_insert (pv 1) (pa_cons (pv 3) (pa_cons (pv 2) pa_nil))))))))
      (pss_one (ps_ret (pv 1))))), ?_⟩
    refine ⟨(by show 0 ≤ sizeLine; decide), fun F nF => ?_⟩
    have sF := same_new nF (.lst [])
    -- the list of the told branches
    refine ⟨_, rfl, a, rfl, ⟨xs, SqL.of (sF _ _ ha)⟩, fun D nD => ?_⟩
    refine lc_it (walk_list (xs := xs)) (fun i H' => Grow (upd H F (.lst [])) H' D ((bs.take i).map told)) (Grow.start nD) (fun i H' _ g => SqL.of (g.same _ _ (sF _ _ ha))) ?_ ?_
    · rintro i x H1 H2 hi g ⟨rfl, hx⟩
      obtain ⟨b, hb, hxb⟩ := hbs.get hx
      have mb := List.mem_of_getElem? hb
      refine ⟨rfl, _, rfl, x, b, rfl, TreeAt.same g.same b (TreeAt.same sF b hxb), fit_bs hf mb, depth_bs hd mb, fun H3 r nw => ?_⟩
      obtain ⟨acc, h1, h2, h3⟩ := g.more nw
      refine ⟨acc, h1, ?_, ?_⟩
      · rw [h2, List.length_map, List.length_take]
        exact lim_line (Nat.le_trans (Nat.min_le_right _ _) flen)
      · rw [take_more hb, List.map_append]; exact h3
    · intro H1 g
      rw [hbs.len, List.take_length] at g
      obtain ⟨s1, _, acc, as, hD, ow, nd, fr⟩ := g
      have hF1 : H1 F = some (.lst []) := s1 _ _ upd_same
      have la : acc.length = bs.length := by rw [ow.len, List.length_map]
      obtain ⟨nDas, nas⟩ := List.nodup_cons.mp nd
      have frH : ∀ c, c ∈ as → H c = none := fun c hc => sF.free (fr c hc)
      have nFas : F ∉ as := fun hc => by have := fr F hc; rw [upd_same] at this; cases this
      have nDF : D ≠ F := fun e => by rw [e, upd_same] at nD; cases nD
      refine ⟨D, rfl, ⟨acc, SqL.of hD⟩, ?_⟩
      refine for_it (walk_list (xs := acc)) (fun i σ H' => ∃ o1 o2 fv as', σ = [some (.ref a), some (.ref F), o1, o2] ∧ (∀ b o, b ≠ F → H1 b = some o → H' b = some o) ∧ H' F = some (.lst fv) ∧ fv.length = i ∧ Owns H1 (fv ++ acc.drop i) (toldL [] (bs.take i) ++ (bs.map told).drop i) as' ∧ as'.Perm as) ?_ (fun i σ H' _ p => ?_) ?_ ?_
      · refine ⟨none, none, [], as, rfl, fun _ _ _ e => e, hF1, rfl, ?_, List.Perm.refl _⟩
        rw [List.take_zero, toldL_nil]; exact ow
      · obtain ⟨o1, o2, fv, as', _, k, _⟩ := p
        exact SqL.of (k _ _ nDF hD)
      · rintro i x σ H2 H3 hi ⟨o1, o2, fv, as', rfl, k, hF, lf, ow', pm⟩ ⟨rfl, hx⟩
        have hib : i < bs.length := by omega
        have hb : bs[i]? = some bs[i] := List.getElem?_eq_getElem hib
        have mb := List.getElem_mem hib
        have hmt : (bs.map told)[i]? = some (told bs[i]) := by rw [List.getElem?_map, hb]; rfl
        rw [drop_get hx, drop_get hmt] at ow'
        obtain ⟨v1, v2, a1, a2, e1, e2, p1, p2⟩ := ow'.split
        have l1 : v1.length = fv.length := by rw [p1.len, toldL_len, List.length_take, lf]; simp; omega
        obtain ⟨ev1, ev2⟩ := List.append_inj e1 l1.symm
        subst ev1 ev2 e2
        rw [owns_cons] at p2
        obtain ⟨x', vs', b1, b2, e3, e4, p3, p4⟩ := p2
        injection e3 with e3 e5
        subst e3 e5 e4
        have ns2 : ∀ c, c ∈ a1 ++ (b1 ++ b2) → c ≠ F := fun c hc e => nFas (by rw [← e]; exact pm.mem_iff.mp hc)
        have in2 : ∀ c, c ∈ a1 ++ (b1 ++ b2) → ∀ o, H1 c = some o → H3 c = some o := fun c hc o q => k c o (ns2 c hc) q
        have tsF : TreesAt H3 fv (toldL [] (bs.take i)) := Owns.at_ _ (Owns.frame _ p1 fun c hc o q => in2 c (List.mem_append_left _ hc) o q)
        have tx : TreeAt H3 x (told bs[i]) := Own.at_ _ (Own.frame _ p3 fun c hc o q => in2 c (List.mem_append_right _ (List.mem_append_left _ hc)) o q)
        have fl1 : ∀ y, y ∈ toldL [] (bs.take i) → fit y := fun y hy => by
          obtain ⟨z, hz, e⟩ := mem_toldL hy
          rw [e]
          exact fit_told z (fit_bs hf (List.mem_of_mem_take hz))
        have dl1 : ∀ y, y ∈ toldL [] (bs.take i) → depth y < n := fun y hy => by
          obtain ⟨z, hz, e⟩ := mem_toldL hy
          rw [e]
          exact depth_told (depth_bs hd (List.mem_of_mem_take hz))
        have lt : (toldL [] (bs.take i)).length = fv.length := tsF.len.symm
        -- at = 0
        show tSeq _ _ _ [some (V.ref a), some (V.ref F), some x, some (V.int 0)] H3
        refine ⟨fun m σ' H' => ∃ j : Nat, σ' = [some (.ref a), some (.ref F), some x, some (.int j)] ∧ m + j = fv.length ∧ j ≤ insK (told bs[i]) (toldL [] (bs.take i)) ∧ Same H3 H', ⟨fv.length, 0, rfl, rfl, Nat.zero_le _, Same.refl _⟩, ?_⟩
        rintro m σ' H4 ⟨j, rfl, hm, hj, s4⟩
        have hF4 := s4 _ _ hF
        have jl : j ≤ fv.length := by rw [← lt]; exact Nat.le_trans hj (insK_le _ _)
        refine cut_t (fun b H' => Same H4 H' ∧ b = decide (j < insK (told bs[i]) (toldL [] (bs.take i)))) (fun Q' hQ' => ?_) ?_
        · refine ⟨_, rfl, _, rfl, F, fv, rfl, .inl (SqL.of hF4), _, _, rfl, rfl, _, rfl, ?_⟩
          refine ite2 (fun c => ?_) (fun c => ?_)
          · have c' : (j : Int) < ((fv.length : Nat) : Int) := of_decide_eq_true c
            have jl2 : j < (toldL [] (bs.take i)).length := by omega
            obtain ⟨y, hy, hyt⟩ := tsF.get' (List.getElem?_eq_getElem jl2)
            have my := List.getElem_mem jl2
            refine ⟨_, rfl, _, rfl, F, fv, _, _, rfl, rfl, SqL.of hF4, atI_nat hy, _, rfl, y, x, _, _, rfl, TreeAt.same s4 _ hyt, TreeAt.same s4 _ tx, fl1 _ my, dl1 _ my, fun H5 s5 => ?_⟩
            have ig := insK_get (told bs[i]) _ j _ (List.getElem?_eq_getElem jl2) hj
            refine ⟨_, _, rfl, rfl, _, rfl, hQ' _ _ ⟨s5, ?_⟩⟩
            refine decide_eq_decide.mpr ⟨ig.1, fun h => ?_⟩
            by_cases c2 : (0 : Int) ≤ cmp (toldL [] (bs.take i))[j] (told bs[i])
            · exact c2
            · have := ig.2 (by omega); omega
          · have c' : ¬ (j : Int) < ((fv.length : Nat) : Int) := of_decide_eq_false (Bool.eq_false_iff.mpr c)
            refine hQ' _ _ ⟨Same.refl _, ?_⟩
            have := insK_le (told bs[i]) (toldL [] (bs.take i))
            exact (decide_eq_false (by omega)).symm
        rintro b6 H6 ⟨s6, rfl⟩
        refine ite2 (fun c => ?_) (fun c => ?_)
        · have c' := of_decide_eq_true c
          have := insK_le (told bs[i]) (toldL [] (bs.take i))
          refine ⟨fun σ'' H'' => ∃ m', m' < m ∧ ∃ j : Nat, σ'' = [some (.ref a), some (.ref F), some x, some (.int j)] ∧ m' + j = fv.length ∧ j ≤ insK (told bs[i]) (toldL [] (bs.take i)) ∧ Same H3 H'', fun _ _ h => h, ?_⟩
          refine ⟨_, rfl, _, _, rfl, rfl, m - 1, by omega, j + 1, ?_, by omega, by omega, s4.trans s6⟩
          show [_, _, _, some (V.int ((j : Int) + 1))] = _
          congr 1
        · have c' := of_decide_eq_false (Bool.eq_false_iff.mpr c)
          have ej : j = insK (told bs[i]) (toldL [] (bs.take i)) := by omega
          have hF6 := s6 _ _ hF4
          refine ⟨_, rfl, .inl ⟨rfl, _, SqL.of hF6⟩, _, rfl, _, rfl, F, fv, _, x, rfl, rfl, hF6, lim_line (by omega), by omega, ?_, ?_⟩
          · have : (lim : Int) < 2 ^ 63 := by decide
            omega
          · rw [Int.toNat_natCast]
            have eT : toldL [] (bs.take (i + 1)) = (toldL [] (bs.take i)).take j ++ told bs[i] :: (toldL [] (bs.take i)).drop j := by
              rw [toldL_more hb, merge_one, ins_at, ej]
            rw [← List.take_append_drop j (toldL [] (bs.take i))] at p1
            obtain ⟨w1, w2, c1, c2, ev, ea, q1, q2⟩ := p1.split
            subst ea
            have lw : w1.length = j := by rw [q1.len, List.length_take]; omega
            subst ev
            rw [List.take_left' lw, List.drop_left' lw, List.append_assoc, List.singleton_append]
            refine ⟨some x, some (.int j), w1 ++ x :: w2, (c1 ++ (b1 ++ c2)) ++ b2, rfl, fun b o nb e => ?_, upd_same, ?_, ?_, ?_⟩
            · rw [upd_ne nb]; exact s6 _ _ (s4 _ _ (k b o nb e))
            · rw [List.length_append, List.length_cons]
              rw [List.length_append] at lf
              omega
            · rw [eT]
              refine Owns.append (Owns.append q1 ?_) p4
              rw [owns_cons]
              exact ⟨x, w2, b1, c2, rfl, rfl, p3, q2⟩
            · refine List.Perm.trans ?_ pm
              rw [List.append_assoc, List.append_assoc, List.append_assoc]
              refine List.Perm.append_left c1 ?_
              rw [← List.append_assoc, ← List.append_assoc]
              exact List.Perm.append_right b2 List.perm_append_comm
      · rintro σ H2 ⟨o1, o2, fv, as', rfl, k, hF, lf, ow', pm⟩
        have z1 : acc.drop acc.length = [] := List.drop_length
        have z2 : (bs.map told).drop acc.length = [] := List.drop_eq_nil_of_le (by rw [List.length_map]; omega)
        have z3 : bs.take acc.length = bs := by rw [la, List.take_length]
        rw [z1, z2, z3, List.append_nil, List.append_nil] at ow'
        have nFas' : F ∉ as' := fun h => nFas (pm.mem_iff.mp h)
        refine ⟨_, rfl, q _ _ ⟨fun b o e => k b o (ne_of_none e nF) (s1 _ _ (sF _ _ e)), F :: as', ?_, ?_, ?_⟩⟩
        · rw [own_mk]
          exact ⟨F, fv, as', rfl, rfl, hF, Owns.frame _ ow' fun c hc o e => k c o (fun z => nFas' (by rw [← z]; exact hc)) e⟩
        · exact List.nodup_cons.mpr ⟨nFas', pm.nodup_iff.mpr nas⟩
        · intro c hc
          rcases List.mem_cons.mp hc with e | hc
          · rw [e]; exact nF
          · exact frH c (pm.mem_iff.mp hc)
end
section
variable {P : Program} {w : World} {K : PySem.W.Frag} {mg : Str → Option Value} {base : Heap}
/-! ### _law_is_tree -/
def spLawIsTree (n : Nat) : Sp := fun vs H Q _ => ∃ (v : V) (t : Tt), vs = [v] ∧ TreeAt H v t ∧ fit t ∧ depth t < n ∧ ∀ H', Same H H' → Q (.bl true) H'
theorem ok__law_is_tree (T : Txt K mg) : ∀ n, FnOk P w K mg base CX0 n T.a__law_is_tree T.d__law_is_tree ["_law_found"] (spLawIsTree n)
  | 0 => none_left fun vs H Q E ⟨v, t, _, _, _, h, _⟩ => by omega
  | n + 1 => by
    have G__law_is_tree := ok__law_is_tree T n
    refine T.F__law_is_tree.ok sc__law_is_tree (fun vs H Q E h => ?_) (fun cdv A outer s H vs Q E hr h => ?_)
    · obtain ⟨v, t, rfl, _⟩ := h; rfl
    obtain ⟨v, ⟨bs⟩, rfl, ht, hf, hd, q⟩ := h
    have R__law_is_tree : Room n _ := hr
    rw [treeAt_mk] at ht
    obtain ⟨a, xs, rfl, ha, hbs⟩ := ht
    obtain ⟨h1, h2⟩ := list_isi (K := K) ha
    refine ⟨_, (pss_one (ps_ret (pe_and (pe_callB (r := rIsi K) call_isi (by rfl) T.z_isinstance (by decide +kernel) (pa_cons (pv 0) (pa_cons (pe_bltn (v := .ty "list") (u := .type "list") (by rfl) T.z_list (by decide +kernel) rfl) pa_nil))) (pe_one (pe_callB (r := rAll K) (cr_all rfl) (by rfl) T.z_all (by decide +kernel) (pa_cons (pe_lc (own := [("_law_branch", 1)]) (g := gName 1) (tt := tYes) rfl sc__law_is_tree.nd (pi_list (pv 0)) (blkOk_by (own := [("_law_branch", 1)]) (N := ["_law_found", "_law_branch"]) (sc := defScope s__law_is_tree) (by decide +kernel)) (fun _ _ _ _ _ => (pg_name (i := 1) sc__law_is_tree.nd rfl (Or.inl rfl))) (fun _ _ _ _ _ => pts_nil) (fun _ _ _ _ _ => (pe_call G__law_is_tree R__law_is_tree rfl T.m__law_is_tree T.k__law_is_tree T.b__law_is_tree .nil pass0 (pa_cons (pv 1) pa_nil)))) pa_nil)))))), ?_⟩
    refine ⟨_, rfl, _, _, _, _, true, rfl, ClsV.ty _, h1, h2, _, rfl, iteT ?_⟩
    refine ⟨_, rfl, a, rfl, ⟨xs, SqL.of ha⟩, fun D nD => ?_⟩
    refine lc_it (walk_list (xs := xs)) (fun i H' => Fill H H' D ((List.replicate i true).map V.bl)) (Fill.start nD) (fun i H' _ g => SqL.of (g.1 _ _ ha)) ?_ ?_
    · rintro i x H1 H2 hi g ⟨rfl, hx⟩
      obtain ⟨b, hb, hxb⟩ := hbs.get hx
      have mb := List.mem_of_getElem? hb
      refine ⟨rfl, _, rfl, x, b, rfl, TreeAt.same g.1 b hxb, fit_bs hf mb, depth_bs hd mb, fun H3 s3 => ?_⟩
      obtain ⟨k1, k2⟩ := g.more (v := .bl true) s3
      refine ⟨_, k1, ?_, ?_⟩
      · rw [List.length_map, List.length_replicate]
        exact lim_line (by have := fit_len hf; have := hbs.len; omega)
      · rw [List.replicate_succ', List.map_append]; exact k2
    · intro H1 g
      refine ⟨D, _, rfl, SqL.of g.2.2, ?_⟩
      have e : (List.replicate xs.length true).all id = true := by simp
      rw [e]
      exact q _ g.1
/-! ### _law_own: all knots' places behind one another -/
theorem Kept.trans {l : Addr} {H H1 H2 : Hp} (a : Kept l H H1) (b : Kept l H1 H2) : Kept l H H2 := fun c o n e => b c o n (a c o n e)
theorem Kept.of_same {l : Addr} {H H1 : Hp} (s : Same H H1) : Kept l H H1 := fun c o _ e => s c o e
def spLawOwn (n : Nat) : Sp := fun vs H Q _ => ∃ (v : V) (t : Tt) (as : List Addr) (l : Addr) (vs0 : List V), vs = [v, .ref l] ∧ Own H v t as ∧ l ∉ as ∧ H l = some (.lst vs0) ∧ vs0.length + as.length ≤ lim ∧ depth t < n ∧
  ∀ H', Kept l H H' → H' l = some (.lst (vs0 ++ as.tail.map V.ref)) → Q (.ref l) H'
theorem ok__law_own (T : Txt K mg) : ∀ n, FnOk P w K mg base CX0 n T.a__law_own T.d__law_own ["_law_tree_here", "_law_own_here"] (spLawOwn n)
  | 0 => none_left fun vs H Q E ⟨v, t, as, l, vs0, _, _, _, _, _, h, _⟩ => by omega
  | n + 1 => by
    have G__law_own := ok__law_own T n
    refine T.F__law_own.ok sc__law_own (fun vs H Q E h => ?_) (fun cdv A outer s H vs Q E hr h => ?_)
    · obtain ⟨v, t, as, l, vs0, rfl, _⟩ := h; rfl
    obtain ⟨v, ⟨bs⟩, as, l, vs0, rfl, ho, nl, hl, hlen, hd, q⟩ := h
    have R__law_own : Room n _ := hr
    rw [own_mk] at ho
    obtain ⟨a, xs, as', rfl, rfl, ha, ow⟩ := ho
    have nla : l ≠ a := fun e => nl (by rw [e]; exact List.mem_cons_self)
    have nl' : l ∉ as' := fun h => nl (List.mem_cons_of_mem _ h)
    rw [List.length_cons] at hlen
    refine ⟨_, (pss_cons (ps_for PassesOwn.never rfl (pi_list (pe_callTy (r := rListOf K) call_list_ofK (by rfl) T.z_list (by decide +kernel) (pa_cons (pv 0) pa_nil))) (pg_name (i := 2) sc__law_own.nd rfl (Or.inl rfl)) (pss_cons (ps_expr (pe_bm PySem.F.plainAttrs_list PySem.F.slot_list_append PySem.F.type_list_append mt_append (pv 1) (pa_cons (pv 2) pa_nil)))
        (pss_one (ps_expr (pe_call G__law_own R__law_own rfl T.m__law_own T.k__law_own T.b__law_own .nil pass0 (pa_cons (pv 2) (pa_cons (pv 1) pa_nil)))))))
      (pss_one (ps_ret (pv 1)))), ?_⟩
    refine ⟨_, rfl, a, xs, rfl, .inl (SqL.of ha), fun C nC => ?_⟩
    have sC := same_new nC (.lst xs)
    have nlC : l ≠ C := fun e => by rw [e, nC] at hl; cases hl
    have eb : ∀ i, bs = bs.take i ++ bs.drop i := fun i => (List.take_append_drop i bs).symm
    refine ⟨C, rfl, ⟨xs, SqL.of upd_same⟩, ?_⟩
    refine for_it (walk_list (xs := xs)) (fun i σ H' => ∃ o a1 a2, σ = [some (.ref a), some (.ref l), o] ∧ Kept l (upd H C (.lst xs)) H' ∧ as' = a1 ++ a2 ∧ Owns H (xs.drop i) (bs.drop i) a2 ∧ H' l = some (.lst (vs0 ++ a1.map V.ref))) ?_ (fun i σ H' _ p => ?_) ?_ ?_
    · exact ⟨none, [], as', rfl, fun _ _ _ e => e, rfl, ow, by rw [List.map_nil, List.append_nil, upd_ne nlC]; exact hl⟩
    · obtain ⟨o, a1, a2, _, k, _⟩ := p
      exact SqL.of (k _ _ nlC.symm upd_same)
    · rintro i x σ H1 H2 hi ⟨o, a1, a2, rfl, k, rfl, ow2, hl2⟩ ⟨rfl, hx⟩
      have hib : i < bs.length := by have := ow.len; omega
      rw [drop_get hx, drop_get (List.getElem?_eq_getElem hib), owns_cons] at ow2
      obtain ⟨x', vs', b1, b2, e, rfl, p1, p2⟩ := ow2
      injection e with e1 e2
      subst e1 e2
      have mb := List.getElem_mem hib
      simp only [List.length_append] at hlen
      refine ⟨_, rfl, .inl ⟨rfl, _, SqL.of hl2⟩, _, rfl, l, _, x, rfl, rfl, hl2, ?_, ?_⟩
      · rw [List.length_append, List.length_map]
        exact lim_line (by omega)
      -- the branch's own place
      have hx2 : ∃ c b1', x = .ref c ∧ b1 = c :: b1' := by
        cases hb : bs[i] with
        | mk l3 =>
          rw [hb, own_mk] at p1
          obtain ⟨c, _, b1', h1, h2, _⟩ := p1
          exact ⟨c, b1', h1, h2⟩
      obtain ⟨c, b1', rfl, rfl⟩ := hx2
      have k3 : Kept l H2 (upd H2 l (.lst (vs0 ++ a1.map V.ref ++ [.ref c]))) := fun b o nb e => by rw [upd_ne nb]; exact e
      have p1' : Own (upd H2 l (.lst (vs0 ++ a1.map V.ref ++ [.ref c]))) (.ref c) bs[i] (c :: b1') := Own.frame _ p1 fun d hd u e =>
        have nd : d ≠ l := fun z => nl' (by rw [← z]; exact List.mem_append_right _ (List.mem_append_left _ hd))
        k3 d u nd (k d u nd (sC _ _ e))
      refine ⟨_, rfl, _, rfl, .ref c, bs[i], c :: b1', l, _, rfl, p1', fun h => nl' (List.mem_append_right _ (List.mem_append_left _ h)), upd_same, ?_, depth_bs hd mb, fun H5 k5 hl5 => ?_⟩
      · simp only [List.length_append, List.length_cons, List.length_map, List.length_nil] at hlen ⊢
        omega
      · refine ⟨some (.ref c), a1 ++ (c :: b1'), b2, rfl, k.trans (k3.trans k5), by rw [List.append_assoc], p2, ?_⟩
        rw [hl5, List.map_append, List.map_cons]
        simp
    · rintro σ H1 ⟨o, a1, a2, rfl, k, rfl, ow2, hl2⟩
      have e : bs.drop xs.length = [] := by rw [ow.len]; exact List.drop_length
      rw [e, owns_nil] at ow2
      obtain ⟨_, rfl⟩ := ow2
      refine ⟨_, rfl, q _ ((Kept.of_same sC).trans k) ?_⟩
      rw [hl2]; simp
/-! ### _law_spoilt: no list stands twice -/
def kids (H : Hp) (a : Addr) : List V := match H a with
  | some (.lst xs) => xs
  | _ => []
theorem kids_at {H : Hp} {a : Addr} {xs : List V} (h : H a = some (.lst xs)) : kids H a = xs := by unfold kids; rw [h]
mutual
theorem Own.kids {H : Hp} : ∀ {v : V} (t : Tt) {as : List Addr}, Own H v t as → fit t → ∀ a, a ∈ as → H a = some (.lst (Hg.kids H a)) ∧ (Hg.kids H a).length ≤ lim
  | v, .mk bs, as, h, hf, a, ha => by
    rw [own_mk] at h
    rw [fit_mk] at hf
    obtain ⟨b, vs, as', rfl, rfl, hb, ow⟩ := h
    rcases List.mem_cons.mp ha with e | ha
    · subst e
      rw [kids_at hb]
      exact ⟨hb, by rw [ow.len]; exact hf.1⟩
    · exact Owns.kids bs ow hf.2 a ha
theorem Owns.kids {H : Hp} : ∀ {vs : List V} (ts : List Tt) {as : List Addr}, Owns H vs ts as → fitL ts → ∀ a, a ∈ as → H a = some (.lst (Hg.kids H a)) ∧ (Hg.kids H a).length ≤ lim
  | vs, [], as, h, _, a, ha => by rw [owns_nil] at h; rw [h.2] at ha; cases ha
  | vs, b :: bs, as, h, hf, a, ha => by
    rw [owns_cons] at h
    rw [fitL] at hf
    obtain ⟨v, vs', a1, a2, rfl, rfl, o1, o2⟩ := h
    rcases List.mem_append.mp ha with ha | ha
    · exact Own.kids b o1 hf.1 a ha
    · exact Owns.kids bs o2 hf.2 a ha
end
mutual
theorem Own.len {H : Hp} : ∀ {v : V} (t : Tt) {as : List Addr}, Own H v t as → as.length = knots t
  | v, .mk bs, as, h => by
    rw [own_mk] at h
    obtain ⟨b, vs, as', rfl, rfl, hb, ow⟩ := h
    rw [List.length_cons, knots, Owns.lenK bs ow]
    omega
theorem Owns.lenK {H : Hp} : ∀ {vs : List V} (ts : List Tt) {as : List Addr}, Owns H vs ts as → as.length = knotsL ts
  | vs, [], as, h => by rw [owns_nil] at h; rw [h.2, knotsL]; rfl
  | vs, b :: bs, as, h => by
    rw [owns_cons] at h
    obtain ⟨v, vs', a1, a2, rfl, rfl, o1, o2⟩ := h
    rw [List.length_append, knotsL, Own.len b o1, Owns.lenK bs o2]
end
def spLawSpoilt (n : Nat) : Sp := fun vs H Q _ => ∃ (v : V) (t : Tt) (as : List Addr), vs = [v] ∧ Own H v t as ∧ as.Nodup ∧ fit t ∧ knots t ≤ lim - 1 ∧ depth t < n ∧ ∀ H', (∀ b o, b ∉ as → H b = some o → H' b = some o) → Q (.bl true) H'
theorem ok__law_spoilt (T : Txt K mg) (n : Nat) : FnOk P w K mg base CX0 (n + 1) T.a__law_spoilt T.d__law_spoilt ["_law_tree_here"] (spLawSpoilt n) := by
  have G__law_own := ok__law_own (P := P) (w := w) (base := base) T n
  refine T.F__law_spoilt.ok sc__law_spoilt (fun vs H Q E h => ?_) (fun cdv A outer s H vs Q E hr h => ?_)
  · obtain ⟨v, t, as, rfl, _⟩ := h; rfl
  obtain ⟨v, t, as, rfl, ho, nd, hf, hk, hd, q⟩ := h
  have R__law_own : Room n _ := hr
  have hu64 := hr.units
  have hlen := Own.len t ho
  have kd := Own.kids t ho hf
  obtain ⟨a0, as0, eas, ev⟩ : ∃ a0 as0, as = a0 :: as0 ∧ v = .ref a0 := by
    cases t with
    | mk bs =>
      rw [own_mk] at ho
      obtain ⟨b, vs, as', h1, h2, _⟩ := ho
      exact ⟨b, as', h2, h1⟩
  have trk : ∀ a, a ∈ as → ∃ o, H a = some o := fun a ha => ⟨_, (kd a ha).1⟩
  have lpos : lim - 1 < lim := by decide
  refine ⟨_, (pss_cons (ps_set (i := 1) sc__law_spoilt.nd rfl (Or.inl rfl) (pe_call G__law_own R__law_own rfl T.m__law_own T.k__law_own T.b__law_own .nil pass0 (pa_cons (pv 0) (pa_cons (pe_lst (pa_cons (pv 0) pa_nil)) pa_nil))))
      (pss_cons (ps_setLc (i := 2) (own := [("_law_knot", 3)]) (g := gName 3) (tt := tYes) rfl sc__law_spoilt.nd rfl rfl (sw_true rfl rfl rfl (by decide +kernel)) (pi_list (pv 1)) (blkOk_by (own := [("_law_knot", 3)]) (N := ["_law_tree_here", "_law_own_here", "_law_sizes", "_law_knot", "_law_size"]) (sc := defScope s__law_spoilt) (by decide +kernel)) (fun _ _ _ _ _ => (pg_name (i := 3) sc__law_spoilt.nd rfl (Or.inl rfl))) (fun _ _ _ _ _ => pts_nil) (fun _ _ _ _ _ => (pe_callB (r := rLenS K) call_len_seqK rfl T.z_len PySem.boot_len (pa_cons (pv 3) pa_nil))))
      (pss_cons (ps_for PassesOwn.never rfl (pi_list (pv 1)) (pg_name (i := 3) sc__law_spoilt.nd rfl (Or.inl rfl)) (pss_one (ps_expr (pe_bm PySem.F.plainAttrs_list PySem.F.slot_list_append PySem.F.type_list_append mt_append (pv 3) (pa_cons pe_int pa_nil)))))
      (pss_one (ps_ret (pe_cmpR (r := rEqD K) (op_eqD hu64) (pe_lc (own := [("_law_knot", 3)]) (g := gName 3) (tt := tYes) rfl sc__law_spoilt.nd (pi_list (pv 1)) (blkOk_by (own := [("_law_knot", 3)]) (N := ["_law_tree_here", "_law_own_here", "_law_sizes", "_law_knot", "_law_size"]) (sc := defScope s__law_spoilt) (by decide +kernel)) (fun _ _ _ _ _ => (pg_name (i := 3) sc__law_spoilt.nd rfl (Or.inl rfl))) (fun _ _ _ _ _ => pts_nil) (fun _ _ _ _ _ => (pe_callB (r := rLenS K) call_len_seqK rfl T.z_len PySem.boot_len (pa_cons (pv 3) pa_nil)))) (pe_lc (own := [("_law_size", 4)]) (g := gName 4) (tt := tYes) rfl sc__law_spoilt.nd (pi_list (pv 2)) (blkOk_by (own := [("_law_size", 4)]) (N := ["_law_tree_here", "_law_own_here", "_law_sizes", "_law_knot", "_law_size"]) (sc := defScope s__law_spoilt) (by decide +kernel)) (fun _ _ _ _ _ => (pg_name (i := 4) sc__law_spoilt.nd rfl (Or.inl rfl))) (fun _ _ _ _ _ => pts_nil) (fun _ _ _ _ _ => (pe_op op_add (pv 4) pe_int))) (nomark _))))))), ?_⟩
  refine ⟨_, rfl, _, rfl, (by show 1 ≤ sizeLine; decide), fun l nl => ?_⟩
  have sl := same_new nl (.lst [v])
  have nlas : l ∉ as := fun h => by obtain ⟨o, e⟩ := trk l h; rw [nl] at e; cases e
  refine ⟨v, t, as, l, [v], rfl, Own.frame t ho fun a _ o e => sl _ _ e, nlas, upd_same, ?_, hd, fun H1 k1 hl1 => ?_⟩
  · rw [List.length_singleton, hlen]; omega
  have hl1' : H1 l = some (.lst (as.map V.ref)) := by rw [hl1, eas, ev]; rfl
  have s1 : Same H H1 := fun b o e => k1 b o (ne_of_none e nl) (sl _ _ e)
  have at1 : ∀ a, a ∈ as → H1 a = some (.lst (kids H a)) := fun a ha => s1 _ _ (kd a ha).1
  have lal : (as.map V.ref).length = as.length := List.length_map _
  have zl : ∀ i, i < as.length → i < sizeLine := fun i hi => lim_line (by omega)
  -- sizes
  refine ⟨_, rfl, l, rfl, ⟨_, SqL.of hl1'⟩, fun D nD => ?_⟩
  refine lc_it (walk_list (xs := as.map V.ref)) (fun i H' => Fill H1 H' D (((as.take i).map fun a => ((kids H a).length : Int)).map V.int)) (Fill.start nD) (fun i H' _ g => SqL.of (g.1 _ _ hl1')) ?_ ?_
  · rintro i x H2 H3 hi g ⟨rfl, hx⟩
    rw [lal] at hi
    have hai : as[i]? = some as[i] := List.getElem?_eq_getElem hi
    rw [List.getElem?_map, hai] at hx
    cases hx
    have ma := List.getElem_mem hi
    refine ⟨rfl, _, rfl, _, _, rfl, .inl (SqL.of (g.1 _ _ (at1 _ ma))), ?_⟩
    obtain ⟨h1, h2⟩ := g.more (v := .int ((kids H as[i]).length : Int)) (Same.refl _)
    refine ⟨_, h1, ?_, ?_⟩
    · rw [List.length_map, List.length_map, List.length_take]
      exact zl _ (by omega)
    · rw [take_more hai, List.map_append, List.map_append]; exact h2
  intro H2 g2
  rw [lal, List.take_length] at g2
  obtain ⟨s2, _, hD2⟩ := g2
  have nDas : D ∉ as := fun h => by have := at1 _ h; rw [nD] at this; cases this
  have nDl : D ≠ l := fun e => by rw [e, hl1'] at nD; cases nD
  -- knot.append(0)
  refine ⟨_, rfl, l, rfl, ⟨_, SqL.of (s2 _ _ hl1')⟩, ?_⟩
  refine for_it (walk_list (xs := as.map V.ref)) (fun i σ H' => ∃ o o2, σ = [some v, some (.ref l), some (.ref D), o, o2] ∧ (∀ b u, b ∉ as → H2 b = some u → H' b = some u) ∧ (∀ j a, as[j]? = some a → H' a = some (.lst (if j < i then kids H a ++ [.int 0] else kids H a)))) ?_ (fun i σ H' _ p => ?_) ?_ ?_
  · exact ⟨none, none, rfl, fun _ _ _ e => e, fun j a h => by rw [if_neg (Nat.not_lt_zero j)]; exact s2 _ _ (at1 _ (List.mem_of_getElem? h))⟩
  · obtain ⟨o, o2, _, k, _⟩ := p
    exact SqL.of (k _ _ nlas (s2 _ _ hl1'))
  · rintro i x σ H3 H4 hi ⟨o, o2, rfl, k3, at3⟩ ⟨rfl, hx⟩
    rw [lal] at hi
    have hai : as[i]? = some as[i] := List.getElem?_eq_getElem hi
    rw [List.getElem?_map, hai] at hx
    cases hx
    have ma := List.getElem_mem hi
    have hi3 := at3 i _ hai
    rw [if_neg (Nat.lt_irrefl i)] at hi3
    refine ⟨_, rfl, .inl ⟨rfl, _, SqL.of hi3⟩, _, _, _, rfl, rfl, hi3, lim_line (kd _ ma).2, ?_⟩
    refine ⟨_, o2, rfl, fun b u nb e => ?_, fun j a hj => ?_⟩
    · rw [upd_ne (fun z => nb (by rw [z]; exact ma))]; exact k3 b u nb e
    · by_cases e : j = i
      · subst e
        rw [hai] at hj
        cases hj
        rw [upd_same, if_pos (Nat.lt_succ_self j)]
      · have nea : a ≠ as[i] := fun z => e (nd_ix nd hj (by rw [hai, z]))
        rw [upd_ne nea, at3 j a hj]
        by_cases hlt : j < i
        · rw [if_pos hlt, if_pos (by omega)]
        · rw [if_neg hlt, if_neg (by omega)]
  rintro σ H3 ⟨o, o2, rfl, k3, at3⟩
  rw [lal] at at3
  have hl3 := k3 _ _ nlas (s2 _ _ hl1')
  have hD3 := k3 _ _ nDas hD2
  have all3 : ∀ j a, as[j]? = some a → H3 a = some (.lst (kids H a ++ [.int 0])) := fun j a h => by
    have := at3 j a h
    rw [if_pos (List.getElem?_eq_some_iff.mp h).1] at this
    exact this
  -- the sizes behind it
  refine ⟨_, rfl, l, rfl, ⟨_, SqL.of hl3⟩, fun D2 nD2 => ?_⟩
  refine lc_it (walk_list (xs := as.map V.ref)) (fun i H' => Fill H3 H' D2 (((as.take i).map fun a => ((kids H a).length : Int) + 1).map V.int)) (Fill.start nD2) (fun i H' _ g => SqL.of (g.1 _ _ hl3)) ?_ ?_
  · rintro i x H4 H5 hi g ⟨rfl, hx⟩
    rw [lal] at hi
    have hai : as[i]? = some as[i] := List.getElem?_eq_getElem hi
    rw [List.getElem?_map, hai] at hx
    cases hx
    refine ⟨rfl, _, rfl, _, _, rfl, .inl (SqL.of (g.1 _ _ (all3 _ _ hai))), ?_⟩
    obtain ⟨h1, h2⟩ := g.more (v := .int (((kids H as[i] ++ [V.int 0]).length : Nat) : Int)) (Same.refl _)
    refine ⟨_, h1, ?_, ?_⟩
    · rw [List.length_map, List.length_map, List.length_take]
      exact zl _ (by omega)
    · rw [take_more hai, List.map_append, List.map_append]
      have e : (((kids H as[i] ++ [V.int 0]).length : Nat) : Int) = ((kids H as[i]).length : Int) + 1 := by rw [List.length_append]; rfl
      rw [e] at h2 ⊢
      exact h2
  intro H4 g4
  rw [lal, List.take_length] at g4
  obtain ⟨s4, _, hD4⟩ := g4
  refine ⟨_, rfl, D, rfl, ⟨_, SqL.of (s4 _ _ hD3)⟩, fun D3 nD3 => ?_⟩
  refine lc_it (walk_list (xs := (as.map fun a => ((kids H a).length : Int)).map V.int)) (fun i H' => Fill H4 H' D3 (((as.take i).map fun a => ((kids H a).length : Int) + 1).map V.int)) (Fill.start nD3) (fun i H' _ g => SqL.of (g.1 _ _ (s4 _ _ hD3))) ?_ ?_
  · rintro i x H5 H6 hi g ⟨rfl, hx⟩
    rw [List.length_map, List.length_map] at hi
    have hai : as[i]? = some as[i] := List.getElem?_eq_getElem hi
    rw [List.getElem?_map, List.getElem?_map, hai] at hx
    cases hx
    refine ⟨rfl, _, rfl, _, _, rfl, rfl, ?_⟩
    obtain ⟨h1, h2⟩ := g.more (v := .int (((kids H as[i]).length : Int) + 1)) (Same.refl _)
    refine ⟨_, h1, ?_, ?_⟩
    · rw [List.length_map, List.length_map, List.length_take]
      exact zl _ (by omega)
    · rw [take_more hai, List.map_append, List.map_append]; exact h2
  intro H5 g5
  rw [List.length_map, List.length_map, List.take_length] at g5
  refine eq_ints (SqL.of (g5.1 _ _ hD4)) (SqL.of g5.2.2) ?_
  rw [decide_eq_true rfl]
  refine q _ fun b u nb e => ?_
  have nbl : b ≠ l := ne_of_none e nl
  exact g5.1 _ _ (s4 _ _ (k3 _ _ nb (s2 _ _ (s1 _ _ e))))
end
section
variable {P : Program} {w : World} {K : PySem.W.Frag} {mg : Str → Option Value} {base : Heap}
/-! ### _law_tree -/
theorem cutV_take (xs : List V) (k : Nat) : cutV xs none (some (k : Int)) = xs.take k := by
  unfold cutV
  rw [HT.sIx_none, HT.sIx_nat, List.drop_zero, Nat.sub_zero]
  by_cases h : k ≤ xs.length
  · rw [Nat.min_eq_left h]
  · rw [Nat.min_eq_right (by omega), List.take_length, List.take_of_length_le (by omega)]
theorem cutV_drop (xs : List V) (k : Nat) : cutV xs (some (k : Int)) none = xs.drop k := by
  unfold cutV
  rw [HT.sIx_none, HT.sIx_nat]
  by_cases h : k ≤ xs.length
  · rw [Nat.min_eq_left h, List.take_of_length_le (by rw [List.length_drop]; omega)]
  · rw [Nat.min_eq_right (by omega), List.drop_eq_nil_of_le (Nat.le_refl _), List.drop_eq_nil_of_le (by omega), List.take_nil]
def spLawTree (K : PySem.W.Frag) : Sp := fun vs H Q _ => ∃ (a : Addr) (ns : List Int) (most byy : Nat), vs = [.ref a, .int most, .int byy] ∧ SqL K H a (ns.map V.int) ∧ (∀ n, n ∈ ns → Bits n NB) ∧ 1 ≤ most ∧ most ≤ 63 ∧ byy ≤ 100 ∧
  ∀ H' r t, New H H' r t → knots t ≤ most + 1 → depth t ≤ most → Q r H'
theorem ok__law_tree (T : Txt K mg) : FnOk P w K mg base CX0 2 T.a__law_tree T.d__law_tree ["_law_script", "_law_most", "_law_by"] (spLawTree K) := by
  have G__law_number := ok__law_number (P := P) (w := w) (base := base) T
  refine T.F__law_tree.ok sc__law_tree (fun vs H Q E h => ?_) (fun cdv A outer s H vs Q E hr h => ?_)
  · obtain ⟨a, ns, most, byy, rfl, _⟩ := h; rfl
  obtain ⟨a, ns, most, byy, rfl, hS, hB, hm1, hm63, hby, q⟩ := h
  have R__law_number : Room 1 _ := hr
  have hu64 := hr.units
  refine ⟨_, (pss_cons (ps_set (i := 3) sc__law_tree.nd rfl (Or.inl rfl) (pe_ifExp (pt_cmpR (r := rNeD K) (op_neD hu64) (pv 0) (pe_lst pa_nil) (nomark _)) (pe_slice (r := rSlL K) sl_list (pv 0) po_none (po_some (pv 1))) (pe_lst (pa_cons pe_int pa_nil))))
      (pss_cons (ps_set (i := 4) sc__law_tree.nd rfl (Or.inl rfl) (pe_lst pa_nil))
      (pss_cons (ps_set (i := 5) sc__law_tree.nd rfl (Or.inl rfl) (pe_lst (pa_cons (pv 4) pa_nil)))
      (pss_cons (ps_for PassesOwn.never rfl (pi_enum (by rfl) T.z_enumerate (pa_cons (pv 3) pa_nil)) (pg_tup rfl (pgs_cons (pg_name (i := 6) sc__law_tree.nd rfl (Or.inl rfl)) (pgs_cons (pg_name (i := 7) sc__law_tree.nd rfl (Or.inl rfl)) pgs_nil))) (pss_cons (ps_set (i := 8) sc__law_tree.nd rfl (Or.inl rfl) (pe_call G__law_number R__law_number rfl T.m__law_number T.k__law_number T.b__law_number .nil pass0 (pa_cons (pv 7) (pa_cons (pe_op op_add (pv 6) (pv 2)) (pa_cons (pe_callB (r := rLenS K) call_len_seqK rfl T.z_len PySem.boot_len (pa_cons (pv 3) pa_nil)) pa_nil)))))
        (pss_cons (ps_set (i := 9) sc__law_tree.nd rfl (Or.inl rfl) (pe_op op_mod (pe_op op_add (pe_callB (r := rLenS K) call_len_seqK rfl T.z_len PySem.boot_len (pa_cons (pv 3) pa_nil)) (pv 2)) pe_int))
        (pss_cons (ps_set (i := 10) sc__law_tree.nd rfl (Or.inl rfl) (pe_op op_mod (pe_op op_fdivW (pv 8) pe_int) (pe_callB (r := rLenS K) call_len_seqK rfl T.z_len PySem.boot_len (pa_cons (pv 5) pa_nil))))
        (pss_cut2 (ps_if (pt_cmpR op_gt (pv 9) pe_int (nomark _)) (pss_one (ps_set (i := 10) sc__law_tree.nd rfl (Or.inl rfl) (pe_op op_sub (pe_op op_sub (pe_callB (r := rLenS K) call_len_seqK rfl T.z_len PySem.boot_len (pa_cons (pv 5) pa_nil)) pe_int) (pe_op op_mod (pe_op op_fdivW (pv 8) pe_int) (pe_callB (call_min2 rfl) (by rfl) T.z_min (by decide +kernel) (pa_cons (pe_callB (r := rLenS K) call_len_seqK rfl T.z_len PySem.boot_len (pa_cons (pv 5) pa_nil)) (pa_cons (pe_op op_add pe_int (pe_op op_mulX (pv 9) pe_int)) pa_nil))))))) pss_nil)
        (pss_cons (ps_set (i := 11) sc__law_tree.nd rfl (Or.inl rfl) (pe_lst pa_nil))
        (pss_cut2 (ps_if (pt_cmpR op_eq (pe_op op_mod (pv 8) pe_int) pe_int (nomark _)) (pss_one (ps_expr (pe_bm PySem.F.plainAttrs_list PySem.F.slot_list_append PySem.F.type_list_append mt_append (pe_ix (r := rIxL K) ix_list (pv 5) (pv 10) (fun _ _ => rfl)) (pa_cons (pv 11) pa_nil)))) (pss_one (ps_expr (pe_bm PySem.F.plainAttrs_list PySem.F.slot_list_insert PySem.F.type_list_insert mt_insert (pe_ix (r := rIxL K) ix_list (pv 5) (pv 10) (fun _ _ => rfl)) (pa_cons pe_int (pa_cons (pv 11) pa_nil))))))
        (pss_one (ps_expr (pe_bm PySem.F.plainAttrs_list PySem.F.slot_list_append PySem.F.type_list_append mt_append (pv 5) (pa_cons (pv 11) pa_nil)))))))))))
      (pss_one (ps_ret (pv 4))))))), ?_⟩
  -- the cells
  suffices hcells : ∀ (Hc : Hp) (Ce : Addr) (cs : List Int), Same H Hc → Hc Ce = some (.lst (cs.map V.int)) → (∀ n, n ∈ cs → Bits n NB) → cs.length ≤ most →
      tSeq _ _ _ [some (V.ref a), some (.int most), some (.int byy), some (.ref Ce), none, none, none, none, none, none, none, none] Hc by
    refine ⟨_, rfl, (by show 0 ≤ sizeLine; decide), fun p np => ?_⟩
    have sp := same_new np (.lst [])
    refine ne_ints (ns := ns) (ms := []) (sp.seq hS) (SqL.of upd_same) ⟨_, rfl, ?_⟩
    refine ite2 (fun _ => ?_) (fun _ => ?_)
    · refine ⟨_, rfl, _, rfl, _, rfl, a, _, rfl, sp.seq hS, fun Ce nC => ?_⟩
      rw [cutV_take]
      refine hcells _ Ce (ns.take most) (sp.trans (same_new nC _)) ?_ (fun n hn => hB n (List.mem_of_mem_take hn)) (by rw [List.length_take]; exact Nat.min_le_left _ _)
      rw [upd_same, List.map_take]
    · refine ⟨(by show 1 ≤ sizeLine; decide), fun Ce nC => ?_⟩
      refine hcells _ Ce [3] (sp.trans (same_new nC _)) upd_same (fun n hn => ?_) hm1
      rw [List.mem_singleton] at hn
      rw [hn]
      exact Bits.mono (a := 2) (by show (3 : Nat) < 4; decide) (by decide)
  intro Hc Ce cs sc hCe hcB hcl
  -- the tree, the list of its knots
  refine ⟨(by show 0 ≤ sizeLine; decide), fun R nR => ?_⟩
  have s1 := same_new nR (.lst [])
  refine ⟨_, rfl, (by show 1 ≤ sizeLine; decide), fun O nO => ?_⟩
  have s2 := same_new nO (.lst [.ref R])
  have nOR : O ≠ R := fun e => by rw [e, upd_same] at nO; cases nO
  have nOc : Hc O = none := s1.free nO
  refine ⟨_, rfl, Ce, _, rfl, SqL.of (s2 _ _ (s1 _ _ hCe)), ?_⟩
  refine for_it (walk_enum (xs := cs.map V.int)) (fun i σ H' => ∃ (o6 o7 o8 o9 o10 o11 : Option V) (t : Tt) (as os : List Addr), σ = [some (.ref a), some (.int most), some (.int byy), some (.ref Ce), some (.ref R), some (.ref O), o6, o7, o8, o9, o10, o11] ∧
      Same Hc H' ∧ Own H' (.ref R) t as ∧ as.Nodup ∧ (∀ c, c ∈ as → Hc c = none) ∧ O ∉ as ∧ H' O = some (.lst (os.map V.ref)) ∧ os.length = i + 1 ∧ (∀ c, c ∈ os → c ∈ as) ∧ knots t = i + 1 ∧ depth t ≤ i) ?_ (fun i σ H' _ p => ?_) ?_ ?_
  · refine ⟨none, none, none, none, none, none, .mk [], [R], [R], rfl, s1.trans s2, ?_, List.nodup_cons.mpr ⟨by simp, List.nodup_nil⟩, fun c hc => ?_, ?_, upd_same, rfl, fun c hc => hc, by rw [knots, knotsL], by rw [depth, depthL]; exact Nat.le_refl 0⟩
    · rw [own_mk]
      exact ⟨R, [], [], rfl, rfl, s2 _ _ upd_same, by rw [owns_nil]; exact ⟨rfl, rfl⟩⟩
    · rw [List.mem_singleton] at hc
      rw [hc]; exact nR
    · rw [List.mem_singleton]; exact nOR
  · obtain ⟨_, _, _, _, _, _, t, as, os, _, sm, _⟩ := p
    exact SqL.of (sm _ _ hCe)
  · rintro i x σ H1 H2 hi ⟨o6, o7, o8, o9, o10, o11, t, as, os, rfl, sm, ow, nd, fr, nOas, hO, lo, so, kt, dt⟩ ⟨Tp, x1, y1, rfl, nT, rfl, hx, hy⟩
    have sT := same_new nT (.tup [x1, y1])
    cases hx
    rw [List.length_map] at hi
    have hci : cs[i]? = some cs[i] := List.getElem?_eq_getElem hi
    replace hy : (cs.map V.int)[i]? = some y1 := hy
    rw [List.getElem?_map, hci] at hy
    cases hy
    have mc := List.getElem_mem hi
    have hCe1 := sT _ _ (sm _ _ hCe)
    have hO1 := sT _ _ hO
    have ow1 : Own (upd H1 Tp (.tup [.int (i : Nat), .int cs[i]])) (.ref R) t as := Own.frame t ow fun c _ u e => sT _ _ e
    have lcs : (cs.map V.int).length = cs.length := List.length_map _
    have los : (os.map V.ref).length = os.length := List.length_map _
    generalize hH3 : upd H1 Tp (.tup [.int (i : Nat), .int cs[i]]) = H3 at sT hCe1 hO1 ow1 ⊢
    refine ⟨Tp, _, rfl, SqT.of (by rw [← hH3]; exact upd_same), rfl, _, _, rfl, _, _, rfl, rfl, ?_⟩
    refine ⟨_, rfl, _, rfl, _, rfl, _, _, rfl, rfl, _, rfl, Ce, _, rfl, .inl (SqL.of hCe1), cs[i], (((cs.map V.int).length : Nat) : Int), i + byy, rfl, hcB _ mc, ?_, by omega, fun z hz => ?_⟩
    · rw [lcs]
      exact Bits.mono (a := 7) (Bits.lt (n := 128) (by omega) (by omega) (by decide)) (by decide)
    -- kind, spot
    refine ⟨_, rfl, Ce, _, rfl, .inl (SqL.of hCe1), _, rfl, _, _, rfl, rfl, _, _, rfl, rfl, (by show (0 : Int) < 3; decide), ?_⟩
    refine ⟨_, rfl, _, _, rfl, rfl, wide_div (b := 2) (by decide) (by decide) (by decide) (by decide), _, rfl, O, _, rfl, .inl (SqL.of hO1), _, _, rfl, rfl, (by show (0 : Int) < (((os.map V.ref).length : Nat) : Int); rw [los]; omega), ?_⟩
    have k0 : 0 ≤ ((((cs.map V.int).length : Nat) : Int) + (byy : Int)) % 3 := Int.emod_nonneg _ (by decide)
    have k1 : ((((cs.map V.int).length : Nat) : Int) + (byy : Int)) % 3 < 3 := Int.emod_lt_of_pos _ (by decide)
    have p0 : 0 ≤ z / 3 % (((os.map V.ref).length : Nat) : Int) := Int.emod_nonneg _ (by rw [los]; omega)
    have p1 : z / 3 % (((os.map V.ref).length : Nat) : Int) < (((os.map V.ref).length : Nat) : Int) := Int.emod_lt_of_pos _ (by rw [los]; omega)
    show tCut _ _ _ [_, _, _, _, _, _, _, _, some (V.int z), some (V.int (((((cs.map V.int).length : Nat) : Int) + (byy : Int)) % 3)), some (V.int (z / 3 % (((os.map V.ref).length : Nat) : Int))), o11] H3
    generalize ((((cs.map V.int).length : Nat) : Int) + (byy : Int)) % 3 = kd at k0 k1 ⊢
    generalize z / 3 % (((os.map V.ref).length : Nat) : Int) = sp0 at p0 p1 ⊢
    refine ⟨fun σ' H' => H' = H3 ∧ ∃ sp : Nat, sp < os.length ∧ σ' = [some (.ref a), some (.int most), some (.int byy), some (.ref Ce), some (.ref R), some (.ref O), some (.int (i : Nat)), some (.int cs[i]), some (.int z), some (.int kd), some (.int sp), o11], ?_, ?_⟩
    · refine ⟨_, rfl, _, _, rfl, rfl, _, rfl, ?_⟩
      refine ite2 (fun _ => ?_) (fun _ => ?_)
      · refine ⟨_, rfl, O, _, rfl, .inl (SqL.of hO1), _, _, rfl, rfl, _, rfl, _, _, rfl, rfl, wide_div (b := 2) (by decide) (by decide) (by decide) (by decide), _, rfl, O, _, rfl, .inl (SqL.of hO1), _, rfl, _, _, rfl, rfl, (by exact Bits.mulX (a := 2) (b := 2) (by show kd.natAbs < 4; omega) (by show (2 : Nat) < 4; decide) (by decide)), _, _, rfl, rfl, _, _, rfl, ?_⟩
        have mpos : 0 < (if 1 + kd * 2 < (((os.map V.ref).length : Nat) : Int) then 1 + kd * 2 else (((os.map V.ref).length : Nat) : Int)) := by
          split <;> omega
        have mle : (if 1 + kd * 2 < (((os.map V.ref).length : Nat) : Int) then 1 + kd * 2 else (((os.map V.ref).length : Nat) : Int)) ≤ (((os.map V.ref).length : Nat) : Int) := by
          split <;> omega
        refine ⟨_, _, rfl, rfl, mpos, _, _, rfl, rfl, rfl, ?_⟩
        have r0 := Int.emod_nonneg (z / 3) (Int.ne_of_gt mpos)
        have r1 := Int.emod_lt_of_pos (z / 3) mpos
        generalize z / 3 % (if 1 + kd * 2 < (((os.map V.ref).length : Nat) : Int) then 1 + kd * 2 else (((os.map V.ref).length : Nat) : Int)) = rr at r0 r1 ⊢
        refine ⟨((((os.map V.ref).length : Nat) : Int) - 1 - rr).toNat, by omega, ?_⟩
        show [_, _, _, _, _, _, _, _, _, _, some (V.int ((((os.map V.ref).length : Nat) : Int) - 1 - rr)), _] = _
        rw [Int.toNat_of_nonneg (by omega)]
      · refine ⟨rfl, sp0.toNat, by omega, ?_⟩
        rw [Int.toNat_of_nonneg p0]
    rintro σ' H' ⟨rfl, sp, hsp, rfl⟩
    -- the new branch
    refine ⟨(by show 0 ≤ sizeLine; decide), fun B nB => ?_⟩
    have sB := same_new nB (.lst [])
    have ms := List.getElem_mem hsp
    have mas := so _ ms
    have osAt : (os.map V.ref)[sp]? = some (V.ref os[sp]) := by rw [List.getElem?_map, List.getElem?_eq_getElem hsp]; rfl
    have hft : fit t := fit_of_knots (n := 100) (by decide) t (by omega)
    obtain ⟨ks, hks, ksl⟩ : ∃ ks, H' os[sp] = some (.lst ks) ∧ ks.length < sizeLine := ⟨_, (Own.kids t ow1 hft _ mas).1, lim_line (Own.kids t ow1 hft _ mas).2⟩
    have nBas : B ∉ as := fun h => by obtain ⟨o, e⟩ := Own.tracked t ow1 _ h; rw [nB] at e; cases e
    have nBO : B ≠ O := fun e => by rw [e, hO1] at nB; cases nB
    have nsO : os[sp] ≠ O := fun e => nOas (by rw [← e]; exact mas)
    have nsB : os[sp] ≠ B := fun e => nBas (by rw [← e]; exact mas)
    refine ⟨fun σ'' H'' => σ'' = [some (.ref a), some (.int most), some (.int byy), some (.ref Ce), some (.ref R), some (.ref O), some (.int (i : Nat)), some (.int cs[i]), some (.int z), some (.int kd), some (.int sp), some (.ref B)] ∧
        ∃ l r, ks = l ++ r ∧ H'' = upd (upd H' B (.lst [])) os[sp] (.lst (l ++ .ref B :: r)), ?_, ?_⟩
    · refine ⟨_, rfl, _, _, rfl, rfl, (by show (0 : Int) < 2; decide), rfl, _, rfl, ?_⟩
      refine ite2 (fun _ => ?_) (fun _ => ?_)
      · refine ⟨_, rfl, _, rfl, O, _, _, _, rfl, rfl, SqL.of (sB _ _ hO1), atI_nat osAt, .inl ⟨rfl, _, SqL.of (sB _ _ hks)⟩, _, rfl, _, _, _, rfl, rfl, sB _ _ hks, ksl, rfl, ks, [], (List.append_nil ks).symm, rfl⟩
      · refine ⟨_, rfl, _, rfl, O, _, _, _, rfl, rfl, SqL.of (sB _ _ hO1), atI_nat osAt, .inl ⟨rfl, _, SqL.of (sB _ _ hks)⟩, _, rfl, _, _, _, _, rfl, rfl, sB _ _ hks, ksl, Int.le_refl 0, by decide, rfl, [], ks, rfl, rfl⟩
    rintro σ'' H'' ⟨rfl, l, r, rfl, rfl⟩
    have sB2 : ∀ b, b ≠ os[sp] → ∀ o, H' b = some o → upd (upd H' B (.lst [])) os[sp] (.lst (l ++ .ref B :: r)) b = some o := fun b nb o e => by rw [upd_ne nb]; exact sB _ _ e
    obtain ⟨t', as', ow', pm, kt', dt'⟩ := Own.graft sB2 hks upd_same (by rw [upd_ne nsB.symm]; exact upd_same) t ow1 nd mas
    generalize upd (upd H' B (.lst [])) os[sp] (.lst (l ++ .ref B :: r)) = H4 at sB2 ow' ⊢
    have hO4 := sB2 O nsO.symm _ hO1
    have nOas' : O ∉ as' := fun h => by
      rcases List.mem_cons.mp (pm.mem_iff.mp h) with e | h
      · exact nBO e.symm
      · exact nOas h
    refine ⟨_, rfl, .inl ⟨rfl, _, SqL.of hO4⟩, _, rfl, O, _, _, rfl, rfl, hO4, ?_, ?_⟩
    · rw [los]; exact lim_line (by have : (100 : Nat) ≤ lim := by decide
                                   omega)
    refine ⟨_, _, _, _, _, _, t', as', os ++ [B], rfl, fun b o e => ?_, ?_, ?_, fun c hc => ?_, nOas', ?_, ?_, fun c hc => ?_, by omega, by omega⟩
    · have nb : b ≠ os[sp] := fun z => by rw [z, fr _ mas] at e; cases e
      rw [upd_ne (ne_of_none e nOc)]
      exact sB2 b nb _ (sT _ _ (sm _ _ e))
    · exact Own.frame t' ow' fun c hc u e => by rw [upd_ne (fun z => nOas' (by rw [← z]; exact hc))]; exact e
    · refine pm.nodup_iff.mpr (List.nodup_cons.mpr ⟨nBas, nd⟩)
    · rcases List.mem_cons.mp (pm.mem_iff.mp hc) with e | hc
      · rw [e]; exact (sm.trans sT).free nB
      · exact fr c hc
    · rw [upd_same, List.map_append]; rfl
    · rw [List.length_append, lo]; rfl
    · rcases List.mem_append.mp hc with hc | hc
      · exact pm.mem_iff.mpr (List.mem_cons_of_mem _ (so c hc))
      · rw [List.mem_singleton] at hc
        exact pm.mem_iff.mpr (by rw [hc]; exact List.mem_cons_self)
  · rintro σ H1 ⟨o6, o7, o8, o9, o10, o11, t, as, os, rfl, sm, ow, nd, fr, nOas, hO, lo, so, kt, dt⟩
    rw [List.length_map] at kt dt
    exact ⟨_, rfl, q _ _ t ⟨sc.trans sm, as, ow, nd, fun c hc => sc.free (fr c hc)⟩ (by omega) (by omega)⟩
end
section
variable {P : Program} {w : World} {K : PySem.W.Frag} {mg : Str → Option Value} {base : Heap}
/-- a new tree may be spoilt: what stood before it stays, and what was made behind it -/
theorem New.spoil {H1 H2 H3 : Hp} {v : V} {t : Tt} (n : New H1 H2 v t) (s : Same H2 H3) : ∃ as, Own H3 v t as ∧ as.Nodup ∧
    ∀ H4, (∀ b o, b ∉ as → H3 b = some o → H4 b = some o) → Same H1 H4 ∧ (∀ b o, H2 b = none → H3 b = some o → H4 b = some o) ∧ ∀ {H' : Hp} {u : V} {r : Tt}, New H2 H' u r → Same H' H3 → TreeAt H4 u r := by
  obtain ⟨s12, as, o, nd, fr⟩ := n
  refine ⟨as, Own.frame t o fun a _ u e => s _ _ e, nd, fun H4 k => ?_⟩
  have tr : ∀ b, H2 b = none → b ∉ as := fun b hb h => by obtain ⟨xs, e⟩ := Own.tracked t o b h; rw [hb] at e; cases e
  refine ⟨fun b u e => k b u (fun h => by rw [fr b h] at e; cases e) (s _ _ (s12 _ _ e)), fun b u hb e => k b u (tr b hb) e, fun {H' u r} m s' => ?_⟩
  obtain ⟨s2, bs, o2, _, fr2⟩ := m
  exact Own.at_ r (Own.frame r o2 fun a ha x e => k a x (tr a (fr2 a ha)) (s' _ _ e))
theorem depth41 {t : Tt} (h : okT t) : depth t < 41 := h.dp
theorem dep63 {t : Tt} (h : okT t) : depth t ≤ 63 := Nat.le_trans h.2 (by decide)
theorem knotsL_perm {l m : List Tt} (p : l.Perm m) : knotsL l = knotsL m := by
  induction p with
  | nil => rfl
  | cons x _ ih => rw [knotsL, knotsL, ih]
  | swap x y l => rw [knotsL, knotsL, knotsL, knotsL]; omega
  | trans _ _ ih1 ih2 => rw [ih1, ih2]
theorem knotsL_map {f : Tt → Tt} : ∀ {l : List Tt}, (∀ x, x ∈ l → knots (f x) = knots x) → knotsL (l.map f) = knotsL l
  | [], _ => rfl
  | x :: l, h => by rw [List.map_cons, knotsL, knotsL, h x List.mem_cons_self, knotsL_map fun y hy => h y (List.mem_cons_of_mem _ hy)]
theorem knots_told (t : Tt) : knots (told t) = knots t := by
  induction t using Tt.ind with
  | h l ih =>
    rw [told_mk, knots, knots, knotsL_perm (toldL_perm l []), List.nil_append, knotsL_map ih]
theorem okT_told {t : Tt} (h : okT t) : okT (told t) := ⟨by rw [knots_told]; exact h.1, Nat.le_trans (depth_told_le t) h.2⟩
theorem fit_ok {t : Tt} (h : okT t) : fit t := h.fit
theorem kn_lim {t : Tt} (h : okT t) : knots t ≤ lim - 1 := Nat.le_trans h.1 (by decide)
end
section
variable {P : Program} {w : World} {K : PySem.W.Frag} {mg : Str → Option Value} {base : Heap}
/-! ### text_of -/
def spTextOf (n : Nat) : Sp := fun vs H Q _ => ∃ (v : V) (t : Tt), vs = [v] ∧ TreeAt H v t ∧ knots t ≤ 100000 ∧ depth t < n ∧ ∀ H', Same H H' → Q (.str (mkS (txt t))) H'
theorem sum_len : ∀ l : List (List Nat), ((l.map mkS).map (·.length)).sum = l.flatten.length
  | [] => rfl
  | x :: l => by
    rw [List.map_cons, List.map_cons, List.sum_cons, sum_len l, List.flatten_cons, List.length_append]
    have := mkS_len x
    omega
theorem ok_text_of (T : Txt K mg) : ∀ n, FnOk P w K mg base CX0 n T.a_text_of T.d_text_of ["tree"] (spTextOf n)
  | 0 => none_left fun vs H Q E ⟨v, t, _, _, _, h, _⟩ => by omega
  | n + 1 => by
    have G_text_of := ok_text_of T n
    refine T.F_text_of.ok sc_text_of (fun vs H Q E h => ?_) (fun cdv A outer s H vs Q E hr h => ?_)
    · obtain ⟨v, t, rfl, _⟩ := h; rfl
    obtain ⟨v, ⟨bs⟩, rfl, ht, hk, hd, q⟩ := h
    have R_text_of : Room n _ := hr
    rw [treeAt_mk] at ht
    obtain ⟨a, xs, rfl, ha, hbs⟩ := ht
    have hk' : 1 + knotsL bs ≤ 100000 := by rw [knots] at hk; exact hk
    have hlen := knotsL_len bs
    refine ⟨_, (pss_one (ps_ret (pe_bm PySem.F.plainAttrs_str PySem.F.slot_str_join PySem.F.type_str_join mt_join pe_str (pa_cons (pe_lc (own := [("branch", 1)]) (g := gName 1) (tt := tYes) rfl sc_text_of.nd (pi_list (pv 0)) (blkOk_by (own := [("branch", 1)]) (N := ["tree", "branch"]) (sc := defScope s_text_of) (by decide +kernel)) (fun _ _ _ _ _ => (pg_name (i := 1) sc_text_of.nd rfl (Or.inl rfl))) (fun _ _ _ _ _ => pts_nil) (fun _ _ _ _ _ => (pe_op op_add_str (pe_op op_add_str pe_str (pe_call G_text_of R_text_of rfl T.m_text_of T.k_text_of T.b_text_of .nil pass0 (pa_cons (pv 1) pa_nil))) pe_str))) pa_nil)))), ?_⟩
    refine ⟨rfl, _, rfl, a, rfl, ⟨xs, SqL.of ha⟩, fun D nD => ?_⟩
    refine lc_it (walk_list (xs := xs)) (fun i H' => Fill H H' D (((bs.take i).map fun x => 40 :: (txt x ++ [41])).map fun l => V.str (mkS l))) (Fill.start nD) (fun i H' _ g => SqL.of (g.1 _ _ ha)) ?_ ?_
    · rintro i x H1 H2 hi g ⟨rfl, hx⟩
      obtain ⟨b, hb, hxb⟩ := hbs.get hx
      have mb := List.mem_of_getElem? hb
      have hib := (List.getElem?_eq_some_iff.mp hb).1
      have kb := knotsL_mem mb
      have lb := txt_len b
      have szl : (100000 : Nat) * 2 + 2 ≤ sizeLine := by decide
      refine ⟨rfl, _, rfl, x, b, rfl, TreeAt.same g.1 b hxb, by omega, depth_bs hd mb, fun H3 s3 => ?_⟩
      have e1 : Str.ofString "(" ++ mkS (txt b) = mkS (40 :: txt b) := by rw [lit40, mkS_append]; rfl
      have e2 : mkS (40 :: txt b) ++ Str.ofString ")" = mkS (40 :: (txt b ++ [41])) := by rw [lit41, mkS_append]; rfl
      refine ⟨_, _, rfl, rfl, ?_, ?_⟩
      · rw [lit40, mkS_len, mkS_len, List.length_singleton]; omega
      rw [e1]
      refine ⟨_, _, rfl, rfl, ?_, ?_⟩
      · rw [lit41, mkS_len, mkS_len, List.length_singleton, List.length_cons]; omega
      rw [e2]
      obtain ⟨h1, h2⟩ := g.more (v := .str (mkS (40 :: (txt b ++ [41])))) s3
      refine ⟨_, h1, ?_, ?_⟩
      · rw [List.length_map, List.length_map, List.length_take]
        exact lim_line (by have : (100000 : Nat) ≤ lim := by decide
                           omega)
      · rw [take_more hb, List.map_append, List.map_append]; exact h2
    · intro H1 g
      rw [hbs.len, List.take_length] at g
      have ef := flatten_txt bs
      refine ⟨_, D, (bs.map fun x => 40 :: (txt x ++ [41])).map mkS, rfl, rfl, .inl (SqL.of (by rw [g.2.2, List.map_map, List.map_map, List.map_map]; rfl)), ?_, ?_⟩
      · rw [sum_len, ef, txtL_len, List.length_map, List.length_map]
        have : (Str.ofString "").length = 0 := by rw [litE, mkS_len]; rfl
        rw [this]
        omega
      · rw [litE, join_nil, ef]
        have := q H1 g.1
        rw [txt_mk] at this
        exact this
theorem ok__law_text (T : Txt K mg) : ∀ n, FnOk P w K mg base CX0 n T.a__law_text T.d__law_text ["_law_tree_here"] (spTextOf n)
  | 0 => none_left fun vs H Q E ⟨v, t, _, _, _, h, _⟩ => by omega
  | n + 1 => by
    have G__law_text := ok__law_text T n
    refine T.F__law_text.ok sc__law_text (fun vs H Q E h => ?_) (fun cdv A outer s H vs Q E hr h => ?_)
    · obtain ⟨v, t, rfl, _⟩ := h; rfl
    obtain ⟨v, ⟨bs⟩, rfl, ht, hk, hd, q⟩ := h
    have R__law_text : Room n _ := hr
    rw [treeAt_mk] at ht
    obtain ⟨a, xs, rfl, ha, hbs⟩ := ht
    have hk' : 1 + knotsL bs ≤ 100000 := by rw [knots] at hk; exact hk
    have hlen := knotsL_len bs
    refine ⟨_, (pss_one (ps_ret (pe_bm PySem.F.plainAttrs_str PySem.F.slot_str_join PySem.F.type_str_join mt_join pe_str (pa_cons (pe_lc (own := [("_law_branch", 1)]) (g := gName 1) (tt := tYes) rfl sc__law_text.nd (pi_list (pv 0)) (blkOk_by (own := [("_law_branch", 1)]) (N := ["_law_tree_here", "_law_branch"]) (sc := defScope s__law_text) (by decide +kernel)) (fun _ _ _ _ _ => (pg_name (i := 1) sc__law_text.nd rfl (Or.inl rfl))) (fun _ _ _ _ _ => pts_nil) (fun _ _ _ _ _ => (pe_op op_add_str (pe_op op_add_str pe_str (pe_call G__law_text R__law_text rfl T.m__law_text T.k__law_text T.b__law_text .nil pass0 (pa_cons (pv 1) pa_nil))) pe_str))) pa_nil)))), ?_⟩
    refine ⟨rfl, _, rfl, a, rfl, ⟨xs, SqL.of ha⟩, fun D nD => ?_⟩
    refine lc_it (walk_list (xs := xs)) (fun i H' => Fill H H' D (((bs.take i).map fun x => 40 :: (txt x ++ [41])).map fun l => V.str (mkS l))) (Fill.start nD) (fun i H' _ g => SqL.of (g.1 _ _ ha)) ?_ ?_
    · rintro i x H1 H2 hi g ⟨rfl, hx⟩
      obtain ⟨b, hb, hxb⟩ := hbs.get hx
      have mb := List.mem_of_getElem? hb
      have hib := (List.getElem?_eq_some_iff.mp hb).1
      have kb := knotsL_mem mb
      have lb := txt_len b
      have szl : (100000 : Nat) * 2 + 2 ≤ sizeLine := by decide
      refine ⟨rfl, _, rfl, x, b, rfl, TreeAt.same g.1 b hxb, by omega, depth_bs hd mb, fun H3 s3 => ?_⟩
      have e1 : Str.ofString "(" ++ mkS (txt b) = mkS (40 :: txt b) := by rw [lit40, mkS_append]; rfl
      have e2 : mkS (40 :: txt b) ++ Str.ofString ")" = mkS (40 :: (txt b ++ [41])) := by rw [lit41, mkS_append]; rfl
      refine ⟨_, _, rfl, rfl, ?_, ?_⟩
      · rw [lit40, mkS_len, mkS_len, List.length_singleton]; omega
      rw [e1]
      refine ⟨_, _, rfl, rfl, ?_, ?_⟩
      · rw [lit41, mkS_len, mkS_len, List.length_singleton, List.length_cons]; omega
      rw [e2]
      obtain ⟨h1, h2⟩ := g.more (v := .str (mkS (40 :: (txt b ++ [41])))) s3
      refine ⟨_, h1, ?_, ?_⟩
      · rw [List.length_map, List.length_map, List.length_take]
        exact lim_line (by have : (100000 : Nat) ≤ lim := by decide
                           omega)
      · rw [take_more hb, List.map_append, List.map_append]; exact h2
    · intro H1 g
      rw [hbs.len, List.take_length] at g
      have ef := flatten_txt bs
      refine ⟨_, D, (bs.map fun x => 40 :: (txt x ++ [41])).map mkS, rfl, rfl, .inl (SqL.of (by rw [g.2.2, List.map_map, List.map_map, List.map_map]; rfl)), ?_, ?_⟩
      · rw [sum_len, ef, txtL_len, List.length_map, List.length_map]
        have : (Str.ofString "").length = 0 := by rw [litE, mkS_len]; rfl
        rw [this]
        omega
      · rw [litE, join_nil, ef]
        have := q H1 g.1
        rw [txt_mk] at this
        exact this
/-! ### text -/
def spText (A : Addr) : Sp := fun vs H Q E => ∃ v, vs = [v] ∧ ((∃ t, TreeAt H v t ∧ okT t ∧ ∀ H', Same H H' → Q (.str (mkS (txt (told t)))) H') ∨ (Bad H v ∧ ∀ H', Same H H' → E (.ref A) none H'))
theorem ok_text (T : Txt K mg) : FnOk P w K mg base (L2N.CX P w) 44 T.a_text T.d_text ["tree"] (spText T.A_BadTree) := by
  have G_asked_tree := ok_asked_tree (P := P) (w := w) (base := base) T
  have G_told_of := ok_told_of (P := P) (w := w) (base := base) T 41
  have G_text_of := ok_text_of (P := P) (w := w) (base := base) T 41
  refine okN T.F_text sc_text (fun vs H Q E h => ?_) (fun cdv A outer s H vs Q E hr h => ?_)
  · obtain ⟨v, rfl, _⟩ := h; rfl
  obtain ⟨v, rfl, h⟩ := h
  have R_asked_tree : Room 43 _ := hr
  have R_told_of : Room 43 _ := hr
  have R_text_of : Room 41 _ := hr.mono (by omega)
  refine ⟨_, (pss_cons (ps_expr (pe_call G_asked_tree R_asked_tree rfl T.m_asked_tree T.k_asked_tree T.b_asked_tree .nil (L2N.passes_call (L2N.takes_of rfl rfl rfl rfl) (fun _ _ _ _ h => h)) (pa_cons (pv 0) pa_nil)))
      (pss_one (ps_ret (pe_call G_text_of R_text_of rfl T.m_text_of T.k_text_of T.b_text_of .nil pass0 (pa_cons (pe_call G_told_of R_told_of rfl T.m_told_of T.k_told_of T.b_told_of .nil pass0 (pa_cons (pv 0) pa_nil)) pa_nil))))), ?_⟩
  rcases h with ⟨t, ht, ho, q⟩ | ⟨hb, q⟩
  · refine ⟨_, rfl, v, rfl, .inl ⟨t, ht, ho, fun H1 s1 => ?_⟩⟩
    refine ⟨_, rfl, v, t, rfl, TreeAt.same s1 t ht, ho.fit, ho.dp, fun H2 r nw => ?_⟩
    exact ⟨r, told t, rfl, nw.at_, by rw [knots_told]; exact Nat.le_trans ho.1 (by decide), depth_told ho.dp, fun H3 s3 => q _ (s1.trans (nw.1.trans s3))⟩
  · exact ⟨_, rfl, v, rfl, .inr ⟨hb, fun H1 s1 => q _ s1⟩⟩
end
/-- the last but one takes the last one in -/
theorem Grow.fold {H H' : Hp} {O : Addr} {ts p b : List Tt} (g : Grow H H' O (ts ++ [.mk p, .mk b])) : ∃ acc ap ab pv, H' O = some (.lst (acc ++ [.ref ap, .ref ab])) ∧ acc.length = ts.length ∧ ap ≠ O ∧ H' ap = some (.lst pv) ∧ pv.length = p.length ∧
    Grow H (upd (upd H' O (.lst (acc ++ [.ref ap]))) ap (.lst (pv ++ [.ref ab]))) O (ts ++ [.mk (p ++ [.mk b])]) := by
  obtain ⟨k, hO, vs, as, h1, ow, nd, fr⟩ := g
  obtain ⟨acc, v2, a1, a2, rfl, rfl, o1, o2⟩ := ow.split
  rw [owns_cons] at o2
  obtain ⟨vp, w2, c1, c2, rfl, rfl, p1, p2⟩ := o2
  rw [owns_cons] at p2
  obtain ⟨vb, w3, c3, c4, rfl, rfl, p3, p4⟩ := p2
  rw [owns_nil] at p4
  obtain ⟨rfl, rfl⟩ := p4
  rw [own_mk] at p1 p3
  obtain ⟨ap, pv, asp, rfl, rfl, hp, op⟩ := p1
  obtain ⟨ab, bv, asb, rfl, rfl, hb, ob⟩ := p3
  rw [List.append_nil] at nd fr
  obtain ⟨nO, nas⟩ := List.nodup_cons.mp nd
  obtain ⟨n1, n2, n12⟩ := List.nodup_append.mp nas
  obtain ⟨n3, n4, n34⟩ := List.nodup_append.mp n2
  obtain ⟨n5, n6⟩ := List.nodup_cons.mp n3
  have apO : ap ≠ O := fun e => nO (by rw [← e]; exact List.mem_append_right _ (List.mem_append_left _ List.mem_cons_self))
  have keep : ∀ c, c ≠ O → c ≠ ap → ∀ o, H' c = some o → upd (upd H' O (.lst (acc ++ [.ref ap]))) ap (.lst (pv ++ [.ref ab])) c = some o := fun c h1 h2 o e => by
    rw [upd_ne h2, upd_ne h1]; exact e
  have ap1 : ∀ c, c ∈ a1 → c ≠ ap := fun c hc e => n12 c hc ap (List.mem_append_left _ List.mem_cons_self) e
  have ne1 : ∀ c, c ∈ a1 → c ≠ O := fun c hc e => nO (by rw [← e]; exact List.mem_append_left _ hc)
  have ne2 : ∀ c, c ∈ asp → c ≠ O := fun c hc e => nO (by rw [← e]; exact List.mem_append_right _ (List.mem_append_left _ (List.mem_cons_of_mem _ hc)))
  have ne3 : ∀ c, c ∈ (ab :: asb) → c ≠ O := fun c hc e => nO (by rw [← e]; exact List.mem_append_right _ (List.mem_append_right _ hc))
  have ap2 : ∀ c, c ∈ asp → c ≠ ap := fun c hc e => n5 (by rw [← e]; exact hc)
  have ap3 : ∀ c, c ∈ (ab :: asb) → c ≠ ap := fun c hc e => n34 ap List.mem_cons_self c hc e.symm
  refine ⟨acc, ap, ab, pv, h1, o1.len, apO, hp, op.len, ⟨fun c o e => ?_, hO, acc ++ [.ref ap], a1 ++ (ap :: (asp ++ (ab :: asb))), ?_, ?_, ?_, fun c hc => ?_⟩⟩
  · have h2 : c ≠ ap := fun z => by
      have := fr ap (List.mem_append_right _ (List.mem_append_left _ List.mem_cons_self))
      rw [z, this] at e; cases e
    exact keep c (ne_of_none e hO) h2 o (k _ _ e)
  · rw [upd_ne apO.symm]; exact upd_same
  · refine Owns.append (Owns.frame _ o1 fun c hc o e => keep c (ne1 c hc) (ap1 c hc) o e) (Owns.one ?_)
    rw [own_mk]
    refine ⟨ap, _, _, rfl, rfl, upd_same, Owns.append (Owns.frame _ op fun c hc o e => keep c (ne2 c hc) (ap2 c hc) o e) (Owns.one ?_)⟩
    rw [own_mk]
    refine ⟨ab, bv, asb, rfl, rfl, keep ab (ne3 ab List.mem_cons_self) (ap3 ab List.mem_cons_self) _ hb, Owns.frame _ ob fun c hc o e => keep c (ne3 c (List.mem_cons_of_mem _ hc)) (ap3 c (List.mem_cons_of_mem _ hc)) o e⟩
  · have e : a1 ++ (ap :: (asp ++ (ab :: asb))) = a1 ++ (ap :: asp ++ (ab :: asb)) := by simp
    rw [e]; exact nd
  · have e : a1 ++ (ap :: (asp ++ (ab :: asb))) = a1 ++ (ap :: asp ++ (ab :: asb)) := by simp
    rw [e] at hc; exact fr c hc
/-- the one that is left -/
theorem Grow.only {H H' : Hp} {O : Addr} {t : List Tt} (g : Grow H H' O [.mk t]) : ∃ r, H' O = some (.lst [r]) ∧ New H H' r (.mk t) := by
  obtain ⟨k, hO, vs, as, h1, ow, nd, fr⟩ := g
  rw [owns_cons] at ow
  obtain ⟨v, w, c1, c2, rfl, rfl, p1, p2⟩ := ow
  rw [owns_nil] at p2
  obtain ⟨rfl, rfl⟩ := p2
  rw [List.append_nil] at nd fr
  exact ⟨v, h1, k, c1, p1, (List.nodup_cons.mp nd).2, fr⟩
/-- the stack as it lies in the list, the innermost last -/
def stkT (st : Stk) : List Tt := st.reverse.map Tt.mk
theorem stkT_push (st : Stk) : stkT ([] :: st) = stkT st ++ [.mk []] := by unfold stkT; simp
theorem stkT_two (b p : List Tt) (r : Stk) : stkT (b :: p :: r) = stkT r ++ [.mk p, .mk b] := by unfold stkT; simp
theorem stkT_fold (b p : List Tt) (r : Stk) : stkT ((p ++ [.mk b]) :: r) = stkT r ++ [.mk (p ++ [.mk b])] := by unfold stkT; simp
theorem stkT_len (st : Stk) : (stkT st).length = st.length := by unfold stkT; simp
theorem atI_end {α : Type} (xs : List α) (v : α) : atI (xs ++ [v]) (-1) = some v := atI_last xs v
theorem sign_eq (c : Nat) : (V.str ⟨#[c]⟩ = V.str (Str.ofString "(")) ↔ c = 40 := by
  rw [lit40]
  constructor
  · intro h
    injection h with h
    unfold mkS at h
    injection h with h
    have := congrArg Array.toList h
    simpa using this
  · intro h; rw [h]; rfl
/-- open_ones = [[]] -/
theorem grow_one {H : Hp} {p0 O : Addr} (np0 : H p0 = none) (nO : upd H p0 (.lst []) O = none) : Grow H (upd (upd H p0 (.lst [])) O (.lst [.ref p0])) O (stkT [[]]) := by
  have s1 : Same H (upd H p0 (.lst [])) := same_new np0 _
  have u1 : upd H p0 (.lst []) p0 = some (.lst []) := upd_same
  have ne : p0 ≠ O := fun e => by rw [e] at u1 nO; rw [nO] at u1; cases u1
  have s2 : Same (upd H p0 (.lst [])) (upd (upd H p0 (.lst [])) O (.lst [.ref p0])) := same_new nO _
  refine ⟨s1.trans s2, s1.free nO, [.ref p0], [p0], upd_same, ?_, ?_, ?_⟩
  · refine Owns.one ?_
    rw [own_mk]
    refine ⟨p0, [], [], rfl, rfl, s2 _ _ u1, ?_⟩
    rw [owns_nil]
    exact ⟨rfl, rfl⟩
  · simp; exact fun e => ne e.symm
  · intro a ha
    rw [List.mem_singleton] at ha
    rw [ha]; exact np0
theorem rdL_at {l : List Nat} {i c : Nat} {st : Stk} (h : l[i]? = some c) : rdL st l = (rdL st (l.take i)).bind fun s => rdL s (c :: l.drop (i + 1)) := by
  have e : l = l.take i ++ (c :: l.drop (i + 1)) := by
    obtain ⟨hi, e⟩ := List.getElem?_eq_some_iff.mp h
    rw [← e, List.getElem_cons_drop, List.take_append_drop]
  rw [← rdL_append, ← e]
theorem len_knotsL : ∀ l : List Tt, l.length ≤ knotsL l
  | [] => by simp [knotsL]
  | x :: l => by
    rw [List.length_cons, knotsL]
    have := len_knotsL l
    have := depth_knots x
    omega
theorem stT_le : ∀ st : Stk, st ≠ [] → st.length ≤ (stT st).length + 1 ∧ ∀ p, p ∈ st → p.length ≤ (stT st).length
  | [], h => absurd rfl h
  | [s], _ => by
    refine ⟨by simp, fun p hp => ?_⟩
    rw [List.mem_singleton] at hp
    subst hp
    show _ ≤ (txtL p).length
    have := txtL_len p
    have := len_knotsL p
    omega
  | s :: t :: r, _ => by
    obtain ⟨h1, h2⟩ := stT_le (t :: r) (by simp)
    have e1 : (stT (s :: t :: r)).length = (stT (t :: r)).length + ((txtL s).length + 1) := by
      rw [stT_two, List.length_append, List.length_cons]
    rw [e1]
    refine ⟨by rw [List.length_cons]; omega, fun p hp => ?_⟩
    rcases List.mem_cons.mp hp with e | hp
    · subst e
      have := txtL_len p
      have := len_knotsL p
      omega
    · have := h2 p hp
      omega
theorem stk_le {l : List Nat} {st : Stk} (h : rdL [[]] l = some st) (hb : brk l) : st.length ≤ l.length + 1 ∧ ∀ p, p ∈ st → p.length ≤ l.length := by
  obtain ⟨h1, h2⟩ := rdS_txt _ _ _ (by simp) hb (rdL_rdS _ _ _ h)
  have h3 := stT_le st h1
  have e : stT st = l := by
    rw [h2]
    show txtL [] ++ l = l
    rw [txtL_nil]; rfl
  rw [e] at h3
  exact h3
section
variable {P : Program} {w : World} {K : PySem.W.Frag} {mg : Str → Option Value} {base : Heap}
/-! ### read -/
/-- no text at all, too long a one, one with other signs -/
inductive BadTx (K : PySem.W.Frag) (H : Hp) : V → Prop where
  | other {v : V} {ty : Value} (h : TyX K H v ty) (k : PySem.W.kitOne K ty (.type "str") = some false) : BadTx K H v
  | long {z : Str} (h : 598 < z.length) (hz : z.length ≤ sizeLine) : BadTx K H (.str z)
  | signs {z : Str} (h : z.length ≤ 598) (k : Txt.stripChars z (Str.ofString "()") ≠ Str.ofString "") : BadTx K H (.str z)
def spRead (K : PySem.W.Frag) (A : Addr) : Sp := fun vs H Q E => ∃ v, vs = [v] ∧
  ((∃ l, v = .str (mkS l) ∧ brk l ∧ l.length ≤ 598 ∧ (∀ t, rdL [[]] l = some [t] → ∀ H' r, New H H' r (.mk t) → Q r H') ∧ ((∀ t, rdL [[]] l ≠ some [t]) → ∀ H', Same H H' → E (.ref A) none H')) ∨
    (BadTx K H v ∧ ∀ H', Same H H' → E (.ref A) none H'))
theorem ok_read (T : Txt K mg) : FnOk P w K mg base (L2N.CX P w) 2 T.a_read T.d_read ["text"] (spRead K T.A_BadText) := by
  refine okN T.F_read sc_read (fun vs H Q E h => ?_) (fun cdv A outer s H vs Q E hr h => ?_)
  · obtain ⟨v, rfl, _⟩ := h; rfl
  obtain ⟨v, rfl, h⟩ := h
  refine ⟨_, (pss_cons (ps_if (PW.pt (pw_or (pt_not (pt_val (pe_callB (r := rIsi K) call_isi (by rfl) T.z_isinstance (by decide +kernel) (pa_cons (pv 0) (pa_cons (pe_bltn (v := .ty "str") (u := .type "str") (by rfl) T.z_str (by decide +kernel) rfl) pa_nil))))) (pw_or (pt_cmpR op_gt (pe_callB call_len_str rfl T.z_len PySem.boot_len (pa_cons (pv 0) pa_nil)) (pe_op op_sub (pe_op op_mulX pe_int (pe_glob (v := .int 300) rfl T.c_MOST ⟨_, rfl⟩)) pe_int) (nomark _)) (pw_or1 (pt_cmpR op_ne (pe_bm PySem.F.plainAttrs_str PySem.F.slot_str_strip PySem.F.type_str_strip mt_stripChars (pv 0) (pa_cons pe_str pa_nil)) pe_str (nomark _)))))) (pss_one (L2N.ps_raise rfl (L2N.takes_of rfl rfl rfl rfl) (L2N.pmk_own PySem.F.excBase_ValueError T.x_BadText T.g_BadText T.k_BadText (raises_own T.sb_BadText T.tt_BadText) (by exact rfl)))) pss_nil)
      (pss_cons (ps_set (i := 1) sc_read.nd rfl (Or.inl rfl) (pe_lst (pa_cons (pe_lst pa_nil) pa_nil)))
      (pss_cons (ps_for (passes_of rfl) rfl (pi_str (pv 0)) (pg_name (i := 2) sc_read.nd rfl (Or.inl rfl)) (pss_cut2 (ps_if (pt_cmpR op_eq (pv 2) pe_str (nomark _)) (pss_one (ps_expr (pe_bm PySem.F.plainAttrs_list PySem.F.slot_list_append PySem.F.type_list_append mt_append (pv 1) (pa_cons (pe_lst pa_nil) pa_nil)))) (pss_one (ps_if (pt_cmpR op_gt (pe_callB (r := rLenS K) call_len_seqK rfl T.z_len PySem.boot_len (pa_cons (pv 1) pa_nil)) pe_int (nomark _)) (pss_cons (ps_set (i := 3) sc_read.nd rfl (Or.inl rfl) (pe_bm0 PySem.F.plainAttrs_list PySem.F.slot_list_pop PySem.F.type_list_pop mt_pop (pv 1)))
            (pss_one (ps_expr (pe_bm PySem.F.plainAttrs_list PySem.F.slot_list_append PySem.F.type_list_append mt_append (pe_ix (r := rIxL K) ix_list (pv 1) (pe_un un_neg pe_int) (fun _ _ => rfl)) (pa_cons (pv 3) pa_nil))))) (pss_one (L2N.ps_raise rfl (L2N.takes_of rfl rfl rfl rfl) (L2N.pmk_own PySem.F.excBase_ValueError T.x_BadText T.g_BadText T.k_BadText (raises_own T.sb_BadText T.tt_BadText) (by exact rfl)))))))
        (pss_one (ps_if (pt_cmpR op_gt (pe_callB (r := rLenS K) call_len_seqK rfl T.z_len PySem.boot_len (pa_cons (pv 1) pa_nil)) (pe_op op_add (pe_glob (v := .int 40) rfl T.c_DEEPEST ⟨_, rfl⟩) pe_int) (nomark _)) (pss_one (L2N.ps_raise rfl (L2N.takes_of rfl rfl rfl rfl) (L2N.pmk_own PySem.F.excBase_ValueError T.x_BadText T.g_BadText T.k_BadText (raises_own T.sb_BadText T.tt_BadText) (by exact rfl)))) pss_nil))))
      (pss_cons (ps_if (pt_cmpR op_gt (pe_callB (r := rLenS K) call_len_seqK rfl T.z_len PySem.boot_len (pa_cons (pv 1) pa_nil)) pe_int (nomark _)) (pss_one (L2N.ps_raise rfl (L2N.takes_of rfl rfl rfl rfl) (L2N.pmk_own PySem.F.excBase_ValueError T.x_BadText T.g_BadText T.k_BadText (raises_own T.sb_BadText T.tt_BadText) (by exact rfl)))) pss_nil)
      (pss_one (ps_ret (pe_ix (r := rIxL K) ix_list (pv 1) pe_int (fun _ _ => rfl)))))))), ?_⟩
  have mo : CMulX 2 300 := mulX (a := 2) (b := 9) (by decide) (by decide) (by decide)
  rcases h with ⟨l, rfl, hb, hl, qt, qf⟩ | ⟨hbad, q⟩
  · have hcl := mkS_len l
    have szl : (1000 : Nat) ≤ sizeLine := by decide
    refine ⟨_, rfl, _, _, .type "str", .type "str", true, rfl, ClsV.ty _, .base (.str _), kit_ty (by decide +kernel), _, rfl, iteF ?_⟩
    refine ⟨_, rfl, _, rfl, by rw [hcl]; omega, _, _, rfl, rfl, mo, _, _, rfl, rfl, _, _, rfl, rfl, _, rfl, ?_⟩
    refine ite2 (fun c => ?_) (fun c => ?_)
    · have c' : (2 * 300 - 2 : Int) < ((mkS l).length : Nat) := of_decide_eq_true c
      rw [hcl] at c'; omega
    refine ⟨_, rfl, rfl, _, _, rfl, rfl, by rw [hcl]; omega, ?_⟩
    have es : Txt.stripChars (mkS l) (Str.ofString "()") = Str.ofString "" := by rw [litB, litE, strip_brk hb]
    rw [es]
    refine ⟨rfl, _, rfl, iteNS rfl ?_⟩
    -- open_ones = [[]]
    refine ⟨(by show 0 ≤ sizeLine; decide), fun p0 np0 => ?_⟩
    have n0 : New H (upd H p0 (.lst [])) (.ref p0) (.mk []) := (Grow.start np0).done
    refine ⟨(by show 1 ≤ sizeLine; decide), fun O nO => ?_⟩
    have g0 : Grow H (upd (upd H p0 (.lst [])) O (.lst [.ref p0])) O (stkT [[]]) := grow_one np0 nO
    generalize upd (upd H p0 (.lst [])) O (.lst [.ref p0]) = G0 at g0 ⊢
    have e0 : (mkS l).cps.toList = l := by unfold mkS; simp
    have ez : (mkS l).cps.size = l.length := by unfold mkS; simp
    refine ⟨_, rfl, mkS l, rfl, ?_⟩
    refine for_it walk_str (fun i σ H' => ∃ o2 o3 st, σ = [some (.str (mkS l)), some (.ref O), o2, o3] ∧ rdL [[]] (l.take i) = some st ∧ Grow H H' O (stkT st)) ⟨none, none, [[]], rfl, rfl, g0⟩ (fun _ _ _ _ _ => trivial) ?_ ?_
    · rintro i x σ H1 H2 hi ⟨o2, o3, st, rfl, hst, g⟩ ⟨rfl, c, hc, rfl⟩
      have hc' : l[i]? = some c := by rw [← Array.getElem?_toList, e0] at hc; exact hc
      have hne : st ≠ [] := (rdS_txt _ _ _ (by simp) (fun d hd => hb d (List.mem_of_mem_take hd)) (rdL_rdS _ _ _ hst)).1
      have hbound := stk_le hst (fun d hd => hb d (List.mem_of_mem_take hd))
      have htk : (l.take i).length ≤ 598 := by rw [List.length_take]; omega
      have hcc := hb c (List.mem_of_getElem? hc')
      refine ⟨fun σ' H' => ∃ o3 s, σ' = [some (.str (mkS l)), some (.ref O), some (.str ⟨#[c]⟩), o3] ∧ step1 st c = some s ∧ Grow H H' O (stkT s), ?_, ?_⟩
      · refine ⟨_, rfl, rfl, _, rfl, ite2 (fun e => ?_) (fun e => ?_)⟩
        · have ec := (sign_eq c).mp (of_decide_eq_true e)
          obtain ⟨acc, hO, hacc, _⟩ := g.at_
          refine ⟨_, rfl, .inl ⟨rfl, _, SqL.of hO⟩, (by show 0 ≤ sizeLine; decide), fun p np => ?_⟩
          obtain ⟨acc2, h1, h2, h3⟩ := g.more (Grow.start np).done
          refine ⟨_, _, _, rfl, rfl, h1, ?_, o3, [] :: st, rfl, ?_, ?_⟩
          · rw [h2, stkT_len]; omega
          · unfold step1; rw [if_pos ec]
          · rw [stkT_push]; exact h3
        · have ec : ¬ c = 40 := fun z => e (decide_eq_true ((sign_eq c).mpr z))
          obtain ⟨acc, hO, hT, hacc⟩ := g.at_
          rw [stkT_len] at hacc
          refine ⟨_, rfl, _, _, rfl, .inl (SqL.of hO), _, _, rfl, rfl, _, rfl, ite2 (fun e2 => ?_) (fun e2 => ?_)⟩
          · have e3 : (1 : Int) < (acc.length : Nat) := of_decide_eq_true e2
            have e4 : 2 ≤ st.length := by omega
            obtain ⟨b, p, r, rfl⟩ : ∃ b p r, st = b :: p :: r := by
              match st, e4 with
              | b :: p :: r, _ => exact ⟨b, p, r, rfl⟩
            rw [stkT_two] at g
            obtain ⟨ac, ap, ab, pv, k1, k2, k3, k4, k5, k6⟩ := g.fold
            refine ⟨_, rfl, .inl ⟨rfl, _, SqL.of k1⟩, _, _, .ref ab, rfl, rfl, k1, ?_, ?_⟩
            · show (ac ++ [V.ref ap, V.ref ab])[(ac ++ [V.ref ap, V.ref ab]).length - 1]? = some (V.ref ab)
              have e5 : ac ++ [V.ref ap, V.ref ab] = (ac ++ [V.ref ap]) ++ [V.ref ab] := by simp
              rw [e5, List.length_append, List.length_singleton, Nat.add_sub_cancel]
              exact List.getElem?_concat_length
            · have e5 : (ac ++ [V.ref ap, V.ref ab]).dropLast = ac ++ [V.ref ap] := by
                have e5 : ac ++ [V.ref ap, V.ref ab] = (ac ++ [V.ref ap]) ++ [V.ref ab] := by simp
                rw [e5, List.dropLast_concat]
              rw [e5]
              have kp : upd H2 O (.lst (ac ++ [.ref ap])) ap = some (.lst pv) := by rw [upd_ne k3]; exact k4
              refine ⟨_, rfl, _, rfl, O, _, _, .ref ap, rfl, rfl, SqL.of upd_same, atI_end _ _, .inl ⟨rfl, _, SqL.of kp⟩, _, rfl, ap, pv, _, rfl, rfl, kp, ?_, _, (p ++ [.mk b]) :: r, rfl, ?_, ?_⟩
              · have := hbound.2 p (by simp)
                omega
              · unfold step1; rw [if_neg ec]
              · rw [stkT_fold]; exact k6
          · have e3 : ¬ (1 : Int) < (acc.length : Nat) := fun z => e2 (decide_eq_true z)
            refine qf (fun t ht => ?_) _ g.same
            obtain ⟨b, rfl⟩ : ∃ b, st = [b] := by
              match st, hne with
              | [b], _ => exact ⟨b, rfl⟩
              | b :: p :: r, _ => rw [List.length_cons, List.length_cons] at hacc; omega
            have hs : step1 [b] c = none := by unfold step1; rw [if_neg ec]
            rw [rdL_at hc', hst, Option.bind_some, rdL_cons, hs] at ht
            cases ht
      · rintro σ' H' ⟨o3', s1, rfl, hs1, g1⟩
        obtain ⟨acc, hO, hT, hacc⟩ := g1.at_
        rw [stkT_len] at hacc
        refine ⟨_, rfl, _, _, rfl, .inl (SqL.of hO), _, _, rfl, rfl, _, _, rfl, rfl, _, rfl, ite2 (fun e2 => ?_) (fun e2 => ?_)⟩
        · have e3 : (40 + 1 : Int) < (acc.length : Nat) := of_decide_eq_true e2
          refine qf (fun t ht => ?_) _ g1.same
          rw [rdL_at hc', hst, Option.bind_some, rdL_cons, hs1, Option.bind_some, if_pos (by omega)] at ht
          cases ht
        · have e3 : ¬ (40 + 1 : Int) < (acc.length : Nat) := fun z => e2 (decide_eq_true z)
          refine ⟨_, _, s1, rfl, ?_, g1⟩
          rw [take_more hc', rdL_append, hst, Option.bind_some, rdL_cons, hs1, Option.bind_some, if_neg (by omega)]
          rfl
    · rintro σ H1 ⟨o2, o3, st, rfl, hst, g⟩
      rw [ez, List.take_length] at hst
      have hne : st ≠ [] := (rdS_txt _ _ _ (by simp) hb (rdL_rdS _ _ _ hst)).1
      obtain ⟨acc, hO, hT, hacc⟩ := g.at_
      rw [stkT_len] at hacc
      refine ⟨_, rfl, _, _, rfl, .inl (SqL.of hO), _, _, rfl, rfl, _, rfl, ite2 (fun e2 => ?_) (fun e2 => ?_)⟩
      · have e3 : (1 : Int) < (acc.length : Nat) := of_decide_eq_true e2
        refine qf (fun t ht => ?_) _ g.same
        rw [hst] at ht
        injection ht with ht
        rw [ht, List.length_singleton] at hacc
        omega
      · have e3 : ¬ (1 : Int) < (acc.length : Nat) := fun z => e2 (decide_eq_true z)
        obtain ⟨b, rfl⟩ : ∃ b, st = [b] := by
          match st, hne with
          | [b], _ => exact ⟨b, rfl⟩
          | b :: p :: r, _ => rw [List.length_cons, List.length_cons] at hacc; omega
        obtain ⟨r, h1, h2⟩ := Grow.only g
        exact ⟨_, rfl, O, [r], 0, r, rfl, rfl, SqL.of h1, rfl, qt b hst _ _ h2⟩
  · have mo : CMulX 2 300 := mulX (a := 2) (b := 9) (by decide) (by decide) (by decide)
    cases hbad with
    | other ht hk => exact ⟨_, rfl, _, _, _, _, false, rfl, ClsV.ty _, ht, hk, _, rfl, iteT (q _ (Same.refl _))⟩
    | long hz hz2 =>
      refine ⟨_, rfl, _, _, .type "str", .type "str", true, rfl, ClsV.ty _, .base (.str _), kit_ty (by decide +kernel), _, rfl, iteF ?_⟩
      refine ⟨_, rfl, _, rfl, hz2, _, _, rfl, rfl, mo, _, _, rfl, rfl, _, _, rfl, rfl, _, rfl, ?_⟩
      refine ite2 (fun c => q _ (Same.refl _)) (fun c => absurd (decide_eq_true ?_) c)
      omega
    | signs hz hz2 =>
      refine ⟨_, rfl, _, _, .type "str", .type "str", true, rfl, ClsV.ty _, .base (.str _), kit_ty (by decide +kernel), _, rfl, iteF ?_⟩
      have szl : (598 : Nat) ≤ sizeLine := by decide
      refine ⟨_, rfl, _, rfl, by omega, _, _, rfl, rfl, mo, _, _, rfl, rfl, _, _, rfl, rfl, _, rfl, ?_⟩
      refine ite2 (fun c => q _ (Same.refl _)) (fun c => ?_)
      refine ⟨_, rfl, rfl, _, _, rfl, rfl, by omega, ?_⟩
      refine ⟨rfl, _, rfl, ?_⟩
      refine ite2 (fun c => q _ (Same.refl _)) (fun c => absurd ?_ c)
      simpa using hz2
end
section
variable {P : Program} {w : World} {K : PySem.W.Frag} {mg : Str → Option Value} {base : Heap}
/-! ### _law_read -/
def spLawRead : Sp := fun vs H Q _ => ∃ l, vs = [.str (mkS l)] ∧ brk l ∧ l.length ≤ 1000 ∧ (∀ t, rdS [[]] l = some [t] → ∀ H' r, New H H' r (.mk t) → Q r H') ∧ ((∀ t, rdS [[]] l ≠ some [t]) → ∀ H', Same H H' → Q .non H')
theorem rdS_at {l : List Nat} {i c : Nat} {st : Stk} (h : l[i]? = some c) : rdS st l = (rdS st (l.take i)).bind fun s => rdS s (c :: l.drop (i + 1)) := by
  have e : l = l.take i ++ (c :: l.drop (i + 1)) := by
    obtain ⟨hi, e⟩ := List.getElem?_eq_some_iff.mp h
    rw [← e, List.getElem_cons_drop, List.take_append_drop]
  rw [← rdS_append, ← e]
theorem stk_leS {l : List Nat} {st : Stk} (h : rdS [[]] l = some st) (hb : brk l) : st.length ≤ l.length + 1 ∧ ∀ p, p ∈ st → p.length ≤ l.length := by
  obtain ⟨h1, h2⟩ := rdS_txt _ _ _ (by simp) hb h
  have h3 := stT_le st h1
  have e : stT st = l := by
    rw [h2]
    show txtL [] ++ l = l
    rw [txtL_nil]; rfl
  rw [e] at h3
  exact h3
theorem ok__law_read (T : Txt K mg) : FnOk P w K mg base CX0 1 T.a__law_read T.d__law_read ["_law_signs"] spLawRead := by
  refine T.F__law_read.ok sc__law_read (fun vs H Q E h => ?_) (fun cdv A outer s H vs Q E hr h => ?_)
  · obtain ⟨l, rfl, _⟩ := h; rfl
  obtain ⟨l, rfl, hb, hl, qt, qf⟩ := h
  refine ⟨_, (pss_cons (ps_set (i := 1) sc__law_read.nd rfl (Or.inl rfl) (pe_lst (pa_cons (pe_lst pa_nil) pa_nil)))
      (pss_cons (ps_for PassesOwn.never rfl (pi_str (pv 0)) (pg_name (i := 2) sc__law_read.nd rfl (Or.inl rfl)) (pss_one (ps_if (pt_cmpR op_eq (pv 2) pe_str (nomark _)) (pss_one (ps_expr (pe_bm PySem.F.plainAttrs_list PySem.F.slot_list_append PySem.F.type_list_append mt_append (pv 1) (pa_cons (pe_lst pa_nil) pa_nil)))) (pss_one (ps_if (pt_cmpR op_lt (pe_callB (r := rLenS K) call_len_seqK rfl T.z_len PySem.boot_len (pa_cons (pv 1) pa_nil)) pe_int (nomark _)) (pss_one (ps_ret pe_non)) (pss_cons (ps_set (i := 3) sc__law_read.nd rfl (Or.inl rfl) (pe_bm0 PySem.F.plainAttrs_list PySem.F.slot_list_pop PySem.F.type_list_pop mt_pop (pv 1)))
            (pss_one (ps_expr (pe_bm PySem.F.plainAttrs_list PySem.F.slot_list_append PySem.F.type_list_append mt_append (pe_ix (r := rIxL K) ix_list (pv 1) (pe_un un_neg pe_int) (fun _ _ => rfl)) (pa_cons (pv 3) pa_nil))))))))))
      (pss_one (ps_ret (pe_ifExp (pt_cmpR op_eq (pe_callB (r := rLenS K) call_len_seqK rfl T.z_len PySem.boot_len (pa_cons (pv 1) pa_nil)) pe_int (nomark _)) (pe_ix (r := rIxL K) ix_list (pv 1) pe_int (fun _ _ => rfl)) pe_non))))), ?_⟩
  have hcl := mkS_len l
  have szl : (1000 : Nat) * 10 ≤ sizeLine := by decide
  refine ⟨(by show 0 ≤ sizeLine; decide), fun p0 np0 => ?_⟩
  refine ⟨(by show 1 ≤ sizeLine; decide), fun O nO => ?_⟩
  have g0 : Grow H (upd (upd H p0 (.lst [])) O (.lst [.ref p0])) O (stkT [[]]) := grow_one np0 nO
  generalize upd (upd H p0 (.lst [])) O (.lst [.ref p0]) = G0 at g0 ⊢
  have e0 : (mkS l).cps.toList = l := by unfold mkS; simp
  have ez : (mkS l).cps.size = l.length := by unfold mkS; simp
  refine ⟨_, rfl, mkS l, rfl, ?_⟩
  refine for_it walk_str (fun i σ H' => ∃ o2 o3 st, σ = [some (.str (mkS l)), some (.ref O), o2, o3] ∧ rdS [[]] (l.take i) = some st ∧ Grow H H' O (stkT st)) ⟨none, none, [[]], rfl, rfl, g0⟩ (fun _ _ _ _ _ => trivial) ?_ ?_
  · rintro i x σ H1 H2 hi ⟨o2, o3, st, rfl, hst, g⟩ ⟨rfl, c, hc, rfl⟩
    have hc' : l[i]? = some c := by rw [← Array.getElem?_toList, e0] at hc; exact hc
    have hne : st ≠ [] := (rdS_txt _ _ _ (by simp) (fun d hd => hb d (List.mem_of_mem_take hd)) hst).1
    have hbound := stk_leS hst (fun d hd => hb d (List.mem_of_mem_take hd))
    have htk : (l.take i).length ≤ 1000 := by rw [List.length_take]; omega
    refine ⟨_, rfl, rfl, _, rfl, ite2 (fun e => ?_) (fun e => ?_)⟩
    · have ec := (sign_eq c).mp (of_decide_eq_true e)
      obtain ⟨acc, hO, hacc, _⟩ := g.at_
      refine ⟨_, rfl, .inl ⟨rfl, _, SqL.of hO⟩, (by show 0 ≤ sizeLine; decide), fun p np => ?_⟩
      obtain ⟨acc2, h1, h2, h3⟩ := g.more (Grow.start np).done
      refine ⟨_, _, _, rfl, rfl, h1, ?_, _, o3, [] :: st, rfl, ?_, ?_⟩
      · rw [h2, stkT_len]; omega
      · rw [take_more hc', rdS_append, hst, Option.bind_some, rdS_cons]
        unfold step1; rw [if_pos ec]; rfl
      · rw [stkT_push]; exact h3
    · have ec : ¬ c = 40 := fun z => e (decide_eq_true ((sign_eq c).mpr z))
      obtain ⟨acc, hO, hT, hacc⟩ := g.at_
      rw [stkT_len] at hacc
      refine ⟨_, rfl, _, _, rfl, .inl (SqL.of hO), _, _, rfl, rfl, _, rfl, ite2 (fun e2 => ?_) (fun e2 => ?_)⟩
      · have e3 : ((acc.length : Nat) : Int) < 2 := of_decide_eq_true e2
        refine qf (fun t ht => ?_) _ g.same
        obtain ⟨b, rfl⟩ : ∃ b, st = [b] := by
          match st, hne with
          | [b], _ => exact ⟨b, rfl⟩
          | b :: p :: r, _ => rw [List.length_cons, List.length_cons] at hacc; omega
        have hs : step1 [b] c = none := by unfold step1; rw [if_neg ec]
        rw [rdS_at hc', hst, Option.bind_some, rdS_cons, hs] at ht
        cases ht
      · have e3 : ¬ ((acc.length : Nat) : Int) < 2 := fun z => e2 (decide_eq_true z)
        have e4 : 2 ≤ st.length := by omega
        obtain ⟨b, p, r, rfl⟩ : ∃ b p r, st = b :: p :: r := by
          match st, e4 with
          | b :: p :: r, _ => exact ⟨b, p, r, rfl⟩
        rw [stkT_two] at g
        obtain ⟨ac, ap, ab, pv, k1, k2, k3, k4, k5, k6⟩ := g.fold
        refine ⟨_, rfl, .inl ⟨rfl, _, SqL.of k1⟩, _, _, .ref ab, rfl, rfl, k1, ?_, ?_⟩
        · show (ac ++ [V.ref ap, V.ref ab])[(ac ++ [V.ref ap, V.ref ab]).length - 1]? = some (V.ref ab)
          have e5 : ac ++ [V.ref ap, V.ref ab] = (ac ++ [V.ref ap]) ++ [V.ref ab] := by simp
          rw [e5, List.length_append, List.length_singleton, Nat.add_sub_cancel]
          exact List.getElem?_concat_length
        · have e5 : (ac ++ [V.ref ap, V.ref ab]).dropLast = ac ++ [V.ref ap] := by
            have e5 : ac ++ [V.ref ap, V.ref ab] = (ac ++ [V.ref ap]) ++ [V.ref ab] := by simp
            rw [e5, List.dropLast_concat]
          rw [e5]
          have kp : upd H2 O (.lst (ac ++ [.ref ap])) ap = some (.lst pv) := by rw [upd_ne k3]; exact k4
          refine ⟨_, rfl, _, rfl, O, _, _, .ref ap, rfl, rfl, SqL.of upd_same, atI_end _ _, .inl ⟨rfl, _, SqL.of kp⟩, _, rfl, ap, pv, _, rfl, rfl, kp, ?_, _, _, (p ++ [.mk b]) :: r, rfl, ?_, ?_⟩
          · have := hbound.2 p (by simp)
            omega
          · rw [take_more hc', rdS_append, hst, Option.bind_some, rdS_cons]
            unfold step1; rw [if_neg ec]; rfl
          · rw [stkT_fold]; exact k6
  · rintro σ H1 ⟨o2, o3, st, rfl, hst, g⟩
    rw [ez, List.take_length] at hst
    have hne : st ≠ [] := (rdS_txt _ _ _ (by simp) hb hst).1
    obtain ⟨acc, hO, hT, hacc⟩ := g.at_
    rw [stkT_len] at hacc
    refine ⟨_, rfl, _, _, rfl, .inl (SqL.of hO), rfl, _, rfl, ite2 (fun e2 => ?_) (fun e2 => ?_)⟩
    · have e3 : V.int ((acc.length : Nat) : Int) = V.int 1 := of_decide_eq_true e2
      injection e3 with e3
      obtain ⟨b, rfl⟩ : ∃ b, st = [b] := by
        match st, hne with
        | [b], _ => exact ⟨b, rfl⟩
        | b :: p :: r, _ => rw [List.length_cons, List.length_cons] at hacc; omega
      obtain ⟨r, h1, h2⟩ := Grow.only g
      exact ⟨_, rfl, O, [r], 0, r, rfl, rfl, SqL.of h1, rfl, qt b hst _ _ h2⟩
    · refine qf (fun t ht => ?_) _ g.same
      rw [hst] at ht
      injection ht with ht
      rw [ht, List.length_singleton] at hacc
      exact e2 (decide_eq_true (by rw [hacc]; rfl))
theorem spRead_fail {A : Addr} {l : List Nat} {H : Hp} {Q : VK} {E : XK} (hb : brk l) (hl : l.length ≤ 1000) (hx : 598 < l.length ∨ ∀ t, rdL [[]] l ≠ some [t]) (q : ∀ H', Same H H' → E (.ref A) none H') : spRead K A [.str (mkS l)] H Q E := by
  refine ⟨_, rfl, ?_⟩
  have hcl := mkS_len l
  have szl : (1000 : Nat) ≤ sizeLine := by decide
  by_cases hl2 : l.length ≤ 598
  · refine .inl ⟨l, rfl, hb, hl2, fun t ht => ?_, fun _ => q⟩
    rcases hx with hx | hx
    · omega
    · exact absurd ht (hx t)
  · exact .inr ⟨.long (by omega) (by omega), q⟩
/-! ### _law_refused -/
def spLawRefused : Sp := fun vs H Q _ => ∃ l, vs = [.str (mkS l)] ∧ brk l ∧ l.length ≤ 1000 ∧ (598 < l.length ∨ ∀ t, rdL [[]] l ≠ some [t]) ∧ ∀ H', Same H H' → Q (.bl true) H'
theorem ok__law_refused (T : Txt K mg) : FnOk P w K mg base CX0 3 T.a__law_refused T.d__law_refused ["_law_signs"] spLawRefused := by
  have G_read := ok_read (P := P) (w := w) (base := base) T
  refine T.F__law_refused.ok sc__law_refused (fun vs H Q E h => ?_) (fun cdv A outer s H vs Q E hr h => ?_)
  · obtain ⟨l, rfl, _⟩ := h; rfl
  obtain ⟨l, rfl, hb, hl, hx, q⟩ := h
  have R_read : Room 2 _ := hr
  refine ⟨_, (pss_cons (L2N.ps_try_as (i := 1) (Wout := fun _ _ _ _ => False) rfl rfl sc__law_refused.nd rfl rfl ⟨rfl, by decide, Or.inl T.g_HeadError⟩ takesN0 (fun W pn xe tk _ => (pss_one (ps_expr (pe_callS G_read R_read rfl T.m_read T.k_read T.b_read (fun σ => L2N.passAt tk σ) (pa_cons (pv 0) pa_nil))))) (fun a oe cls d pn hz hf => (pss_cons (ps_set (i := 2) sc__law_refused.nd rfl (Or.inl rfl) (pe_lst (pa_cons (pe_callB (r := rIsEx K a cls d) (call_isEx hz hf) (by rfl) T.z_isinstance (by decide +kernel) (pa_cons (pv 1) (pa_cons (pe_glob (v := .ref T.A_BadBase) rfl T.g_BadBase rfl) pa_nil))) (pa_cons (pe_callB (r := rIsEx K a cls d) (call_isEx hz hf) (by rfl) T.z_isinstance (by decide +kernel) (pa_cons (pv 1) (pa_cons (pe_glob (v := .ref T.A_BadNumber) rfl T.g_BadNumber rfl) pa_nil))) (pa_cons (pe_callB (r := rIsEx K a cls d) (call_isEx hz hf) (by rfl) T.z_isinstance (by decide +kernel) (pa_cons (pv 1) (pa_cons (pe_glob (v := .ref T.A_BadTimes) rfl T.g_BadTimes rfl) pa_nil))) pa_nil)))))
        (pss_cons (ps_set (i := 2) sc__law_refused.nd rfl (Or.inl rfl) (pe_op op_cat (pv 2) (pe_lst (pa_cons (pe_callB (r := rIsEx K a cls d) (call_isEx hz hf) (by rfl) T.z_isinstance (by decide +kernel) (pa_cons (pv 1) (pa_cons (pe_glob (v := .ref T.A_BadTree) rfl T.g_BadTree rfl) pa_nil))) (pa_cons (pe_callB (r := rIsEx K a cls d) (call_isEx hz hf) (by rfl) T.z_isinstance (by decide +kernel) (pa_cons (pv 1) (pa_cons (pe_glob (v := .ref T.A_BadWay) rfl T.g_BadWay rfl) pa_nil))) (pa_cons (pe_callB (r := rIsEx K a cls d) (call_isEx hz hf) (by rfl) T.z_isinstance (by decide +kernel) (pa_cons (pv 1) (pa_cons (pe_glob (v := .ref T.A_TooGreat) rfl T.g_TooGreat rfl) pa_nil))) pa_nil))))))
        (pss_one (ps_ret (pe_and (pe_callB (r := rIsEx K a cls d) (call_isEx hz hf) (by rfl) T.z_isinstance (by decide +kernel) (pa_cons (pv 1) (pa_cons (pe_glob (v := .ref T.A_BadText) rfl T.g_BadText rfl) pa_nil))) (pe_one (pe_not (pe_callB (r := rAny K) (call_any_hot hz hf) (by rfl) T.z_any (by decide +kernel) (pa_cons (pv 2) pa_nil)))))))))))
      (pss_one (ps_ret pe_bl))), ?_⟩
  have hcl := mkS_len l
  refine ⟨_, rfl, spRead_fail hb hl hx fun H1 s1 => ?_⟩
  refine ⟨true, PySem.W.exm_ref T.sb_HeadError T.hd_HeadError T.tt_HeadError T.su_BadText, fun _ a na => ?_, fun z => by cases z⟩
  refine ⟨_, rfl, T.A_BadText, _, _, false, rfl, rfl, T.ex_BadText, rfl, (fun _ h => h), T.kt_BadText_BadBase, ?_⟩
  refine ⟨_, rfl, T.A_BadText, _, _, false, rfl, rfl, T.ex_BadText, rfl, (fun _ h => h), T.kt_BadText_BadNumber, ?_⟩
  refine ⟨_, rfl, T.A_BadText, _, _, false, rfl, rfl, T.ex_BadText, rfl, (fun _ h => h), T.kt_BadText_BadTimes, ?_⟩
  refine ⟨(by show 3 ≤ sizeLine; decide), fun p np => ?_⟩
  have z1 := same_new np (.lst [V.bl false, .bl false, .bl false])
  have u1 : upd H1 p (.lst [V.bl false, .bl false, .bl false]) p = some (.lst [V.bl false, .bl false, .bl false]) := upd_same
  generalize upd H1 p (.lst [V.bl false, .bl false, .bl false]) = H2 at z1 u1 ⊢
  refine ⟨_, rfl, ?_⟩
  refine ⟨_, rfl, T.A_BadText, _, _, false, rfl, rfl, T.ex_BadText, rfl, (fun _ h => h), T.kt_BadText_BadTree, ?_⟩
  refine ⟨_, rfl, T.A_BadText, _, _, false, rfl, rfl, T.ex_BadText, rfl, (fun _ h => h), T.kt_BadText_BadWay, ?_⟩
  refine ⟨_, rfl, T.A_BadText, _, _, false, rfl, rfl, T.ex_BadText, rfl, (fun _ h => h), T.kt_BadText_TooGreat, ?_⟩
  refine ⟨(by show 3 ≤ sizeLine; decide), fun p2 np2 => ?_⟩
  have s2 := same_new np2 (.lst [V.bl false, .bl false, .bl false])
  have u2 : upd H2 p2 (.lst [V.bl false, .bl false, .bl false]) p2 = some (.lst [V.bl false, .bl false, .bl false]) := upd_same
  generalize upd H2 p2 (.lst [V.bl false, .bl false, .bl false]) = H3 at s2 u2 ⊢
  refine ⟨p, p2, _, _, rfl, rfl, s2 _ _ u1, u2, (by show 6 ≤ sizeLine; decide), fun p3 np3 => ?_⟩
  have s3 := same_new np3 (.lst ([V.bl false, .bl false, .bl false] ++ [V.bl false, .bl false, .bl false]))
  have u3 : upd H3 p3 (.lst ([V.bl false, .bl false, .bl false] ++ [V.bl false, .bl false, .bl false])) p3 = some (.lst ([V.bl false, .bl false, .bl false] ++ [V.bl false, .bl false, .bl false])) := upd_same
  generalize upd H3 p3 (.lst ([V.bl false, .bl false, .bl false] ++ [V.bl false, .bl false, .bl false])) = H4 at s3 u3 ⊢
  refine ⟨_, rfl, T.A_BadText, _, _, true, rfl, rfl, T.ex_BadText, rfl, (fun _ h => h), T.kt_BadText_BadText, true, rfl, iteT ?_⟩
  exact ⟨_, rfl, p3, [false, false, false, false, false, false], rfl, SqL.of u3, _, rfl, q _ (s1.trans (z1.trans (s2.trans s3)))⟩
end
section
variable {P : Program} {w : World} {K : PySem.W.Frag} {mg : Str → Option Value} {base : Heap}
/-! ### _law_read_right -/
theorem okT_txt {t : List Tt} (h : depthL t ≤ 40) (k : (txtL t).length ≤ 600) (e : (txtL t).length ≠ 600) : okT (.mk t) := by
  have := txtL_len t
  exact ⟨by rw [knots]; omega, by rw [depth]; exact h⟩
def goodTx (l : List Nat) : Prop := brk l ∧ l.length ≤ 599 ∧ ∀ t, l = txtL t → depthL t ≤ 40
def spLawReadRight : Sp := fun vs H Q _ => ∃ l, vs = [.str (mkS l)] ∧ goodTx l ∧ ∀ H', Same H H' → Q (.bl true) H'
theorem ok__law_read_right (T : Txt K mg) : FnOk P w K mg base CX0 43 T.a__law_read_right T.d__law_read_right ["_law_signs"] spLawReadRight := by
  have G__law_read := ok__law_read (P := P) (w := w) (base := base) T
  have G__law_refused := ok__law_refused (P := P) (w := w) (base := base) T
  have G_read := ok_read (P := P) (w := w) (base := base) T
  have G__law_is_tree := ok__law_is_tree (P := P) (w := w) (base := base) T 41
  have G__law_spoilt := ok__law_spoilt (P := P) (w := w) (base := base) T 41
  refine T.F__law_read_right.ok sc__law_read_right (fun vs H Q E h => ?_) (fun cdv A outer s H vs Q E hr h => ?_)
  · obtain ⟨l, rfl, _⟩ := h; rfl
  obtain ⟨l, rfl, ⟨hb, hl, hd⟩, q⟩ := h
  have R__law_read : Room 1 _ := hr.mono (by omega)
  have R__law_refused : Room 3 _ := hr.mono (by omega)
  have R_read : Room 2 _ := hr.mono (by omega)
  have R__law_is_tree : Room 41 _ := hr.mono (by omega)
  have R__law_spoilt : Room 42 _ := hr.mono (by omega)
  have hu64 := hr.units
  refine ⟨_, (pss_cons (ps_set (i := 1) sc__law_read_right.nd rfl (Or.inl rfl) (pe_call G__law_read R__law_read rfl T.m__law_read T.k__law_read T.b__law_read .nil pass0 (pa_cons (pv 0) pa_nil)))
      (pss_cons (ps_if (pt_cmpR op_isN (pv 1) pe_non (nomark _)) (pss_one (ps_ret (pe_call G__law_refused R__law_refused rfl T.m__law_refused T.k__law_refused T.b__law_refused .nil pass0 (pa_cons (pv 0) pa_nil)))) pss_nil)
      (pss_cons (ps_set (i := 2) sc__law_read_right.nd rfl (Or.inl rfl) (pe_call G_read R_read rfl T.m_read T.k_read T.b_read .nil passLN (pa_cons (pv 0) pa_nil)))
      (pss_cons (ps_if (PW.pt (pw_or (pt_not (pt_val (pe_call G__law_is_tree R__law_is_tree rfl T.m__law_is_tree T.k__law_is_tree T.b__law_is_tree .nil pass0 (pa_cons (pv 2) pa_nil)))) (pw_or (pt_cmpR (r := rNeD K) (op_neD hu64) (pv 2) (pv 1) (nomark _)) (pw_or1 (pt_not (pt_val (pe_call G__law_spoilt R__law_spoilt rfl T.m__law_spoilt T.k__law_spoilt T.b__law_spoilt .nil pass0 (pa_cons (pv 2) pa_nil)))))))) (pss_one (ps_ret pe_bl)) pss_nil)
      (pss_one (ps_ret (pe_cmpR (r := rEqD K) (op_eqD hu64) (pe_call G_read R_read rfl T.m_read T.k_read T.b_read .nil passLN (pa_cons (pv 0) pa_nil)) (pv 1) (nomark _)))))))), ?_⟩
  refine ⟨_, rfl, l, rfl, hb, by omega, fun t ht H1 dv n1 => ?_, fun hn H1 s1 => ?_⟩
  · have el := rdS_is hb ht
    have dt := hd t el
    have lt2 := txtL_len t
    rw [← el] at lt2
    have o : okT (.mk t) := okT_txt dt (by rw [← el]; omega) (by rw [← el]; omega)
    have hrd := rdS_rdL _ _ _ dt ht
    obtain ⟨da, rfl⟩ : ∃ a, dv = .ref a := by
      have h := n1.at_
      rw [treeAt_mk] at h
      obtain ⟨a, _, e, _⟩ := h
      exact ⟨a, e⟩
    refine ⟨_, rfl, rfl, _, rfl, iteF ?_⟩
    have uniq : ∀ t', rdL [[]] l = some [t'] → t' = t := fun t' h => by rw [hrd] at h; injection h with h; injection h with h; exact h.symm
    refine ⟨_, rfl, _, rfl, .inl ⟨l, rfl, hb, by omega, fun t' ht' H2 fv n2 => ?_, fun hn => absurd hrd (hn t)⟩⟩
    have et := uniq t' ht'
    subst et
    refine ⟨_, rfl, fv, _, rfl, n2.at_, o.fit, o.dp, fun H3 s3 => ⟨_, rfl, iteF ?_⟩⟩
    refine ⟨_, rfl, _, rfl, ne_trees (TreeAt.same s3 _ n2.at_) (TreeAt.same (n2.1.trans s3) _ n1.at_) (dep63 o) (dep63 o) ⟨_, rfl, iteNS rfl ?_⟩⟩
    obtain ⟨as, ow, nd, sp⟩ := n2.spoil s3
    refine ⟨_, rfl, fv, _, as, rfl, ow, nd, o.fit, kn_lim o, o.dp, fun H4 k4 => ⟨_, rfl, iteF ?_⟩⟩
    obtain ⟨s14, _, _⟩ := sp H4 k4
    have td4 := TreeAt.same s14 _ n1.at_
    refine ⟨_, rfl, _, rfl, .inl ⟨l, rfl, hb, by omega, fun t2 ht2 H5 rv n5 => ?_, fun hn => absurd hrd (hn _)⟩⟩
    have et := uniq t2 ht2
    subst et
    refine ⟨_, rfl, eq_trees n5.at_ (TreeAt.same n5.1 _ td4) (dep63 o) (dep63 o) ?_⟩
    rw [decide_eq_true rfl]
    exact q _ (n1.1.trans (s14.trans n5.1))
  · refine ⟨_, rfl, rfl, _, rfl, iteT ?_⟩
    exact ⟨_, rfl, l, rfl, hb, by omega, .inr fun t ht => hn t (rdL_rdS _ _ _ ht), fun H2 s2 => q _ (s1.trans s2)⟩
end
section
variable {P : Program} {w : World} {K : PySem.W.Frag} {mg : Str → Option Value} {base : Heap}
/-! ### plain: what a bent text closes -/
theorem brk_sub {l m : List Nat} (h : brk m) (s : ∀ c, c ∈ l → c ∈ m) : brk l := fun c hc => h c (s c hc)
theorem txtL_inj {a b : List Tt} (h : txtL a = txtL b) : a = b := by
  have h1 := rdS_txtL a
  rw [h, rdS_txtL] at h1
  injection h1 with h1
  injection h1 with h1
  exact h1.symm
theorem odd_txt {l : List Nat} (h : l.length % 2 = 1) (t : List Tt) : l ≠ txtL t := fun e => by
  have := txtL_len t
  rw [← e] at this
  omega
theorem half_txt {l : List Nat} (h : 2 * l.count 40 ≠ l.length) (t : List Tt) : l ≠ txtL t := fun e => by
  have h1 := txtL_len t
  have h2 := txtL_count t
  rw [← e] at h1 h2
  omega
theorem good_txt {t : List Tt} (h : okT (.mk t)) : goodTx (txtL t) := by
  have h1 : 1 + knotsL t ≤ 300 := by have := h.1; rw [knots] at this; exact this
  have h2 : depthL t ≤ 40 := by have := h.2; rw [depth] at this; exact this
  have h3 := txtL_len t
  exact ⟨txtL_brk t, by omega, fun s e => by rw [← txtL_inj e]; exact h2⟩
theorem good_short {l : List Nat} (hb : brk l) (h : l.length ≤ 80) : goodTx l := ⟨hb, by omega, fun t e => by
  have h1 := txtL_len t
  have h2 := depthL_knots t
  rw [← e] at h1
  omega⟩
theorem good_cut {t : List Tt} (h : okT (.mk t)) (i : Nat) (hi : i ≤ (txtL t).length) : goodTx ((txtL t).take i ++ (txtL t).drop (i + 1)) := by
  have h3 := txtL_len t
  have hb := txtL_brk t
  have g := good_txt h
  have hb' : brk ((txtL t).take i ++ (txtL t).drop (i + 1)) := brk_sub hb fun c hc => by
    rcases List.mem_append.mp hc with hc | hc
    · exact List.mem_of_mem_take hc
    · exact List.mem_of_mem_drop hc
  have hl : ((txtL t).take i ++ (txtL t).drop (i + 1)).length = i + ((txtL t).length - (i + 1)) := by
    rw [List.length_append, List.length_take, List.length_drop]; omega
  by_cases e : i = (txtL t).length
  · have e2 : (txtL t).take i ++ (txtL t).drop (i + 1) = txtL t := by
      rw [e, List.take_length, List.drop_of_length_le (by omega), List.append_nil]
    rw [e2]; exact g
  · exact ⟨hb', by have := g.2.1; omega, fun s es => absurd es (odd_txt (by omega) s)⟩
theorem good_put {t : List Tt} (h : okT (.mk t)) (i : Nat) (hi : i ≤ (txtL t).length) (c : Nat) (hc : c = 40 ∨ c = 41) : goodTx ((txtL t).take i ++ [c] ++ (txtL t).drop (i + 1)) := by
  have h3 := txtL_len t
  have h4 := txtL_count t
  have hb := txtL_brk t
  have g := good_txt h
  have hb' : brk ((txtL t).take i ++ [c] ++ (txtL t).drop (i + 1)) := fun d hd => by
    rcases List.mem_append.mp hd with hd | hd
    · rcases List.mem_append.mp hd with hd | hd
      · exact hb d (List.mem_of_mem_take hd)
      · rw [List.mem_singleton] at hd; rw [hd]; exact hc
    · exact hb d (List.mem_of_mem_drop hd)
  have hl : ((txtL t).take i ++ [c] ++ (txtL t).drop (i + 1)).length = i + 1 + ((txtL t).length - (i + 1)) := by
    rw [List.length_append, List.length_append, List.length_take, List.length_drop, List.length_singleton]; omega
  refine ⟨hb', by have := g.2.1; omega, fun s es => ?_⟩
  by_cases e : i = (txtL t).length
  · exact absurd es (odd_txt (by omega) s)
  · have hlt : i < (txtL t).length := by omega
    have e1 : txtL t = (txtL t).take i ++ [(txtL t)[i]] ++ (txtL t).drop (i + 1) := by
      rw [List.append_assoc, List.singleton_append, List.getElem_cons_drop, List.take_append_drop]
    by_cases ec : (txtL t)[i] = c
    · rw [← ec, ← e1] at es
      exact g.2.2 s es
    · refine absurd es (half_txt ?_ s)
      rw [hl, List.count_append, List.count_append]
      have e2 : (txtL t).count 40 = ((txtL t).take i).count 40 + ([(txtL t)[i]] : List Nat).count 40 + ((txtL t).drop (i + 1)).count 40 := by
        rw [← List.count_append, ← List.count_append, ← e1]
      have cc := hb _ (List.getElem_mem hlt)
      rcases hc with hc | hc
      · have e3 : (txtL t)[i] = 41 := by rcases cc with z | z
                                         · exact absurd (z.trans hc.symm) ec
                                         · exact z
        rw [e3, show ([41] : List Nat).count 40 = 0 from by decide] at e2
        rw [hc, show ([40] : List Nat).count 40 = 1 from by decide]
        omega
      · have e3 : (txtL t)[i] = 40 := by rcases cc with z | z
                                         · exact z
                                         · exact absurd (z.trans hc.symm) ec
        rw [e3, show ([40] : List Nat).count 40 = 1 from by decide] at e2
        rw [hc, show ([41] : List Nat).count 40 = 0 from by decide]
        omega
theorem cutS_take (l : List Nat) (k : Nat) : cutS (mkS l) none (some (k : Int)) = mkS (l.take k) := by
  have e : (mkS l).cps.toList = l := by unfold mkS; simp
  unfold cutS
  rw [e, mkS_len, HT.sIx_none, HT.sIx_nat, List.drop_zero, Nat.sub_zero]
  by_cases h : k ≤ l.length
  · rw [Nat.min_eq_left h]; rfl
  · rw [Nat.min_eq_right (by omega), List.take_length, List.take_of_length_le (by omega)]; rfl
theorem cutS_drop (l : List Nat) (k : Nat) : cutS (mkS l) (some (k : Int)) none = mkS (l.drop k) := by
  have e : (mkS l).cps.toList = l := by unfold mkS; simp
  unfold cutS
  rw [e, mkS_len, HT.sIx_none, HT.sIx_nat]
  by_cases h : k ≤ l.length
  · rw [Nat.min_eq_left h, List.take_of_length_le (by rw [List.length_drop]; exact Nat.le_refl _)]; rfl
  · rw [Nat.min_eq_right (by omega), List.drop_length, List.drop_of_length_le (by omega), Nat.sub_self]; rfl
theorem bits_sum {a : Nat} : ∀ l : List Int, (∀ n, n ∈ l → Bits n a) → Bits l.sum (a + l.length)
  | [], _ => by
    show (0 : Int).natAbs < 2 ^ (a + 0)
    exact Nat.pow_pos (by decide)
  | x :: l, h => by
    rw [List.sum_cons, List.length_cons]
    exact ((h x List.mem_cons_self).mono (Nat.le_add_right _ _)).add (bits_sum l fun n hn => h n (List.mem_cons_of_mem _ hn))
theorem ones_len (ys : List Nat) : ((ys.map fun c => mkS [c]).map fun x => x.length).sum = ys.length := by
  induction ys with
  | nil => rfl
  | cons c ys ih =>
    rw [List.map_cons, List.map_cons, List.sum_cons, ih, mkS_len, List.length_cons, List.length_cons, List.length_nil]
    omega
theorem ones_flat (ys : List Nat) : (ys.map fun c => [c]).flatten = ys := by
  induction ys with
  | nil => rfl
  | cons c ys ih => rw [List.map_cons, List.flatten_cons, ih]; rfl
def NBs : Nat := 1049000
/-! ### law -/
def spLaw (K : PySem.W.Frag) : Sp := fun vs H Q _ => ∃ (a : Addr) (ns : List Int), vs = [.ref a] ∧ SqL K H a (ns.map V.int) ∧ ns.length ≤ 63 ∧ (∀ n, n ∈ ns → Bits n NBs) ∧ ∀ H', Q (.bl true) H'
theorem okT_of {t : Tt} (k d : Nat) (h1 : knots t ≤ k) (h2 : depth t ≤ d) (hk : k ≤ 300) (hd : d ≤ 40) : okT t := ⟨Nat.le_trans h1 hk, Nat.le_trans h2 hd⟩
theorem knots_mk (l : List Tt) : knots (.mk l) = 1 + knotsL l := by rw [knots]
theorem depth_mk (l : List Tt) : depth (.mk l) = depthL l := by rw [depth]
theorem flat_facts (n : Nat) : knotsL (List.replicate n (.mk [])) = n ∧ depthL (List.replicate n (.mk [])) ≤ 1 := by
  induction n with
  | zero => exact ⟨by rw [List.replicate_zero, knotsL], by rw [List.replicate_zero, depthL]; omega⟩
  | succ n ih =>
    rw [List.replicate_succ, knotsL, depthL, knots, knotsL, depth, depthL]
    omega
theorem flat_trees {H : Hp} {p : Addr} (h : TreeAt H (.ref p) (.mk [])) : ∀ n, TreesAt H (List.replicate n (.ref p)) (List.replicate n (.mk []))
  | 0 => by rw [List.replicate_zero, List.replicate_zero, treesAt_nil]
  | n + 1 => by rw [List.replicate_succ, List.replicate_succ]; exact treesAt_c h (flat_trees h n)
theorem flat_one {v : V} (n : Nat) : (List.replicate n [v]).flatten = List.replicate n v := by
  induction n with
  | zero => rfl
  | succ n ih => rw [List.replicate_succ, List.flatten_cons, ih, List.replicate_succ]; rfl
theorem ok_law (T : Txt K mg) : FnOk P w K mg base CX0 46 T.a_law T.d_law ["_law_script"] (spLaw K) := by
  have G__law_tree := ok__law_tree (P := P) (w := w) (base := base) T
  have G__law_number := ok__law_number (P := P) (w := w) (base := base) T
  have G__law_copied := ok__law_copied (P := P) (w := w) (base := base) T 41
  have G__law_told := ok__law_told (P := P) (w := w) (base := base) T 41
  have G__law_text := ok__law_text (P := P) (w := w) (base := base) T 41
  have G__law_read_right := ok__law_read_right (P := P) (w := w) (base := base) T
  have G_text := ok_text (P := P) (w := w) (base := base) T
  have G_read := ok_read (P := P) (w := w) (base := base) T
  refine T.F_law.ok sc_law (fun vs H Q E h => ?_) (fun cdv A outer s H vs Q E hr h => ?_)
  · obtain ⟨a, ns, rfl, _⟩ := h; rfl
  obtain ⟨a, ns, rfl, hS, h63, hB, q⟩ := h
  have R__law_tree : Room 2 _ := hr.mono (by omega)
  have R__law_number : Room 1 _ := hr.mono (by omega)
  have R__law_copied : Room 41 _ := hr.mono (by omega)
  have R__law_told : Room 42 _ := hr.mono (by omega)
  have R__law_text : Room 41 _ := hr.mono (by omega)
  have R__law_read_right : Room 43 _ := hr.mono (by omega)
  have R_text : Room 44 _ := hr.mono (by omega)
  have R_read : Room 2 _ := hr.mono (by omega)
  have hu64 := hr.units
  refine ⟨_, (pss_cons (ps_set (i := 1) sc_law.nd rfl (Or.inr rfl) (pe_callB (r := rSum K) (cr_sum rfl) (by rfl) T.z_sum (by decide +kernel) (pa_cons (pe_slice (r := rSlL K) sl_list (pv 0) po_none (po_some pe_int)) pa_nil)))
      (pss_cons (ps_set (i := 2) sc_law.nd rfl (Or.inl rfl) (pe_op op_rep (pe_lst (pa_cons (pe_lst pa_nil) pa_nil)) (pe_ifExp (pt_cmpR op_eq (pe_op op_mod (pv 1) pe_int) pe_int (nomark _)) pe_int pe_int)))
      (pss_cons (ps_for PassesOwn.never rfl (pi_list (pe_lst (pa_cons (pe_call G__law_tree R__law_tree rfl T.m__law_tree T.k__law_tree T.b__law_tree .nil pass0 (pa_cons (pv 0) (pa_cons pe_int (pa_cons pe_int pa_nil)))) (pa_cons (pe_call G__law_tree R__law_tree rfl T.m__law_tree T.k__law_tree T.b__law_tree .nil pass0 (pa_cons (pe_revL (pv 0)) (pa_cons pe_int (pa_cons pe_int pa_nil)))) (pa_cons (pv 2) (pa_cons (pe_lst pa_nil) pa_nil)))))) (pg_name (i := 3) sc_law.nd rfl (Or.inl rfl)) (pss_cons (ps_set (i := 4) sc_law.nd rfl (Or.inl rfl) (pe_call G__law_copied R__law_copied rfl T.m__law_copied T.k__law_copied T.b__law_copied .nil pass0 (pa_cons (pv 3) pa_nil)))
        (pss_cons (ps_set (i := 5) sc_law.nd rfl (Or.inl rfl) (pe_call G_text R_text rfl T.m_text T.k_text T.b_text .nil passLN (pa_cons (pv 4) pa_nil)))
        (pss_cons (ps_if (PW.pt (pw_or (pt_not (pt_val (pe_callB (r := rIsi K) call_isi (by rfl) T.z_isinstance (by decide +kernel) (pa_cons (pv 5) (pa_cons (pe_bltn (v := .ty "str") (u := .type "str") (by rfl) T.z_str (by decide +kernel) rfl) pa_nil))))) (pw_or (pt_cmpR op_ne (pv 5) (pe_call G__law_text R__law_text rfl T.m__law_text T.k__law_text T.b__law_text .nil pass0 (pa_cons (pe_call G__law_told R__law_told rfl T.m__law_told T.k__law_told T.b__law_told .nil pass0 (pa_cons (pv 3) pa_nil)) pa_nil)) (nomark _)) (pw_or1 (pt_cmpR (r := rNeD K) (op_neD hu64) (pv 4) (pv 3) (nomark _)))))) (pss_one (ps_ret pe_bl)) pss_nil)
        (pss_cons (ps_if (PW.pt (pw_or (pt_cmpR (r := rNeD K) (op_neD hu64) (pe_call G_read R_read rfl T.m_read T.k_read T.b_read .nil passLN (pa_cons (pv 5) pa_nil)) (pe_call G__law_told R__law_told rfl T.m__law_told T.k__law_told T.b__law_told .nil pass0 (pa_cons (pv 3) pa_nil)) (nomark _)) (pw_or1 (pt_not (pt_val (pe_call G__law_read_right R__law_read_right rfl T.m__law_read_right T.k__law_read_right T.b__law_read_right .nil pass0 (pa_cons (pe_call G__law_text R__law_text rfl T.m__law_text T.k__law_text T.b__law_text .nil pass0 (pa_cons (pv 3) pa_nil)) pa_nil))))))) (pss_one (ps_ret pe_bl)) pss_nil)
        (pss_cons (ps_set (i := 6) sc_law.nd rfl (Or.inl rfl) (pe_op op_mod (pe_op op_fdivW (pv 1) pe_int) (pe_op op_add (pe_callB call_len_str rfl T.z_len PySem.boot_len (pa_cons (pv 5) pa_nil)) pe_int)))
        (pss_cons (ps_for PassesOwn.never rfl (pi_list (pe_lst (pa_cons (pe_op op_add_str (pe_slice sl_str (pv 5) po_none (po_some (pv 6))) (pe_slice sl_str (pv 5) (po_some (pe_op op_add (pv 6) pe_int)) po_none)) (pa_cons (pe_op op_add_str (pe_op op_add_str (pe_slice sl_str (pv 5) po_none (po_some (pv 6))) pe_str) (pe_slice sl_str (pv 5) (po_some (pe_op op_add (pv 6) pe_int)) po_none)) (pa_cons (pe_op op_add_str (pe_op op_add_str (pe_slice sl_str (pv 5) po_none (po_some (pv 6))) pe_str) (pe_slice sl_str (pv 5) (po_some (pe_op op_add (pv 6) pe_int)) po_none)) pa_nil))))) (pg_name (i := 7) sc_law.nd rfl (Or.inl rfl)) (pss_one (ps_if (pt_not (pt_val (pe_call G__law_read_right R__law_read_right rfl T.m__law_read_right T.k__law_read_right T.b__law_read_right .nil pass0 (pa_cons (pv 7) pa_nil)))) (pss_one (ps_ret pe_bl)) pss_nil)))
        (pss_one (ps_if (PW.pt (pw_and (pt_cmpR op_lt (pe_callB call_len_str rfl T.z_len PySem.boot_len (pa_cons (pv 5) pa_nil)) pe_int (nomark _)) (pw_and1 (pt_not (pt_val (pe_call G__law_read_right R__law_read_right rfl T.m__law_read_right T.k__law_read_right T.b__law_read_right .nil pass0 (pa_cons (pe_op op_add_str (pe_slice sl_str (pv 5) (po_some (pv 6)) po_none) (pe_slice sl_str (pv 5) po_none (po_some (pv 6)))) pa_nil))))))) (pss_one (ps_ret pe_bl)) pss_nil)))))))))
      (pss_cons (ps_set (i := 8) sc_law.nd rfl (Or.inl rfl) (pe_bm PySem.F.plainAttrs_str PySem.F.slot_str_join PySem.F.type_str_join mt_join pe_str (pa_cons (pe_lc (own := [("_law_k", 9), ("_law_cell", 10)]) (g := gTup K 2 (gCons (gName 9) (gCons (gName 10) gNil))) (tt := tYes) rfl sc_law.nd (pi_enum (by rfl) T.z_enumerate (pa_cons (pe_slice (r := rSlL K) sl_list (pv 0) po_none (po_some pe_int)) pa_nil)) (blkOk_by (own := [("_law_k", 9), ("_law_cell", 10)]) (N := ["_law_script", "_law_whole", "_law_flat", "_law_tree_here", "_law_handed", "_law_signs", "_law_at", "_law_bent", "_law_drawn", "_law_k", "_law_cell"]) (sc := defScope s_law) (by decide +kernel)) (fun _ _ _ _ _ => (pg_tup rfl (pgs_cons (pg_name (i := 9) sc_law.nd rfl (Or.inl rfl)) (pgs_cons (pg_name (i := 10) sc_law.nd rfl (Or.inl rfl)) pgs_nil)))) (fun _ _ _ _ _ => pts_nil) (fun _ _ _ _ _ => (pe_ix ix_str pe_str (pe_op op_mod (pe_op op_fdivW (pe_call G__law_number R__law_number rfl T.m__law_number T.k__law_number T.b__law_number .nil pass0 (pa_cons (pv 10) (pa_cons (pv 9) (pa_cons (pv 1) pa_nil)))) pe_int) pe_int) (fun _ _ => rfl)))) pa_nil)))
      (pss_one (ps_ret (pe_and (pe_call G__law_read_right R__law_read_right rfl T.m__law_read_right T.k__law_read_right T.b__law_read_right .nil pass0 (pa_cons (pv 8) pa_nil)) (pe_and (pe_call G__law_read_right R__law_read_right rfl T.m__law_read_right T.k__law_read_right T.b__law_read_right .nil pass0 (pa_cons (pe_op op_add_str (pe_op op_repS pe_str pe_int) (pe_op op_repS pe_str pe_int)) pa_nil)) (pe_one (pe_cmpR op_eq (pe_call G_text R_text rfl T.m_text T.k_text T.b_text .nil passLN (pa_cons (pe_lst (pa_cons (pe_lst pa_nil) (pa_cons (pe_lst (pa_cons (pe_lst pa_nil) pa_nil)) pa_nil))) pa_nil)) pe_str (nomark _))))))))))), ?_⟩
  have szl : (100000 : Nat) ≤ sizeLine := by decide
  have bNB : ∀ {l : List Int}, (∀ n, n ∈ l → n ∈ ns) → ∀ n, n ∈ l → Bits n NB := fun h n hn => (hB n (h n hn)).mono (by decide)
  -- whole
  refine ⟨_, rfl, _, rfl, a, _, rfl, hS, fun p np => ?_⟩
  have sp := same_new np (.lst (cutV (ns.map V.int) none (some 63)))
  have e63 : cutV (ns.map V.int) none (some 63) = (ns.take 63).map V.int := by
    have h := cutV_take (ns.map V.int) 63
    rw [List.map_take]
    exact h
  refine ⟨p, ns.take 63, rfl, SqL.of (by rw [upd_same, e63]), ?_⟩
  have bw : Bits (ns.take 63).sum NB := by
    refine (bits_sum (a := NBs) _ fun n hn => hB n (List.mem_of_mem_take hn)).mono ?_
    have : NBs + 63 ≤ NB := by decide
    rw [List.length_take]; omega
  show tSeq _ _ _ [some (V.ref a), some (.int (ns.take 63).sum), _, _, _, _, _, _, _, _, _] _
  generalize (ns.take 63).sum = wh at bw ⊢
  generalize upd H p (.lst (cutV (ns.map V.int) none (some 63))) = H1 at sp ⊢
  -- flat
  refine ⟨(by show 0 ≤ sizeLine; decide), fun p0 np0 => ?_⟩
  have s0 := same_new np0 (.lst [])
  have u0 : upd H1 p0 (.lst []) p0 = some (.lst []) := upd_same
  generalize upd H1 p0 (.lst []) = H2 at s0 u0 ⊢
  refine ⟨(by show 1 ≤ sizeLine; decide), fun p1 np1 => ?_⟩
  have s1 := same_new np1 (.lst [.ref p0])
  have u1 : upd H2 p1 (.lst [.ref p0]) p1 = some (.lst [.ref p0]) := upd_same
  generalize upd H2 p1 (.lst [.ref p0]) = H3 at s1 u1 ⊢
  show tIf _ _ _ _ _ _
  refine cut_e (fun v H' => H' = H3 ∧ ∃ k : Nat, v = .int k ∧ (k = 299 ∨ k = 20)) (fun Q' hQ' => ?_) ?_
  · refine ⟨_, rfl, _, _, rfl, rfl, (by show (0 : Int) < 32; decide), rfl, _, rfl, ite2 (fun _ => ?_) (fun _ => ?_)⟩
    · exact hQ' _ _ ⟨rfl, 299, rfl, .inl rfl⟩
    · exact hQ' _ _ ⟨rfl, 20, rfl, .inr rfl⟩
  rintro v H' ⟨rfl, kf, rfl, hkf⟩
  have kf3 : kf ≤ 299 := by omega
  refine ⟨p1, kf, _, rfl, rfl, u1, by omega, by omega, ?_, fun pf npf => ?_⟩
  · rw [List.length_singleton, Int.toNat_natCast]; omega
  rw [Int.toNat_natCast, flat_one]
  have sf := same_new npf (.lst (List.replicate kf (V.ref p0)))
  have uf : upd H' pf (.lst (List.replicate kf (V.ref p0))) pf = some (.lst (List.replicate kf (V.ref p0))) := upd_same
  generalize upd H' pf (.lst (List.replicate kf (V.ref p0))) = H4 at sf uf ⊢
  have sH4 : Same H H4 := sp.trans (s0.trans (s1.trans sf))
  have tf : TreeAt H4 (.ref pf) (.mk (List.replicate kf (.mk []))) := by
    rw [treeAt_mk]
    exact ⟨pf, _, rfl, uf, flat_trees (nil_tree ((s1.trans sf) _ _ u0)) kf⟩
  -- the trees
  refine ⟨_, rfl, a, ns, 39, 0, rfl, sH4.seq hS, bNB (fun _ h => h), by decide, by decide, by decide, fun H5 v0 t0 n5 k0 d0 => ?_⟩
  refine ⟨_, rfl, a, _, rfl, (sH4.trans n5.1).seq hS, fun p2 np2 => ?_⟩
  have sp2 := same_new np2 (.lst (ns.map V.int).reverse)
  refine ⟨p2, ns.reverse, 15, 1, rfl, SqL.of (by rw [upd_same, List.map_reverse]), bNB fun n hn => List.mem_reverse.mp hn, by decide, by decide, by decide, fun H6 v1 t1 n6 k1 d1 => ?_⟩
  have s56 : Same H5 H6 := sp2.trans n6.1
  refine ⟨_, rfl, ?_⟩
  refine ⟨(by show 0 ≤ sizeLine; decide), fun pe npe => ?_⟩
  have se := same_new npe (.lst [])
  have ue : upd H6 pe (.lst []) pe = some (.lst []) := upd_same
  generalize upd H6 pe (.lst []) = H7 at se ue ⊢
  refine ⟨(by show 4 ≤ sizeLine; decide), fun L nL => ?_⟩
  have sL := same_new nL (.lst [v0, v1, .ref pf, .ref pe])
  have uL : upd H7 L (.lst [v0, v1, .ref pf, .ref pe]) L = some (.lst [v0, v1, .ref pf, .ref pe]) := upd_same
  generalize upd H7 L (.lst [v0, v1, .ref pf, .ref pe]) = HL at sL uL ⊢
  have s0L : Same H HL := sH4.trans (n5.1.trans (s56.trans (se.trans sL)))
  have hSL := s0L.seq hS
  have items : ∀ x, x ∈ [v0, v1, V.ref pf, .ref pe] → ∃ l, TreeAt HL x (.mk l) ∧ okT (.mk l) ∧ (knotsL l ≤ 40 ∨ 50 ≤ knotsL l) := by
    intro x hx
    simp only [List.mem_cons, List.mem_nil_iff, or_false] at hx
    rcases hx with e | e | e | e
    · obtain ⟨l⟩ := t0
      rw [e]
      exact ⟨l, TreeAt.same (s56.trans (se.trans sL)) _ n5.at_, okT_of 40 39 k0 d0 (by decide) (by decide), .inl (by rw [knots] at k0; omega)⟩
    · obtain ⟨l⟩ := t1
      rw [e]
      exact ⟨l, TreeAt.same (se.trans sL) _ n6.at_, okT_of 16 15 k1 d1 (by decide) (by decide), .inl (by rw [knots] at k1; omega)⟩
    · obtain ⟨f1, f2⟩ := flat_facts kf
      rw [e]
      refine ⟨_, TreeAt.same (n5.1.trans (s56.trans (se.trans sL))) _ tf, okT_of 300 1 (by rw [knots, f1]; omega) (by rw [depth]; exact f2) (by decide) (by decide), ?_⟩
      rw [f1]; omega
    · rw [e]
      exact ⟨[], nil_tree (sL _ _ ue), ⟨by decide +kernel, by decide +kernel⟩, .inl (by rw [knotsL]; omega)⟩
  refine ⟨L, rfl, ⟨_, SqL.of uL⟩, ?_⟩
  refine for_it (walk_list (xs := [v0, v1, V.ref pf, .ref pe])) (fun i σ H' => Same HL H' ∧ ∃ o3 o4 o5 o6 o7, σ = [some (V.ref a), some (.int wh), some (.ref pf), o3, o4, o5, o6, o7, none, none, none]) ⟨Same.refl _, none, none, none, none, none, rfl⟩ (fun i σ H' _ p => SqL.of (p.1 _ _ uL)) ?_ ?_
  · rintro i x σ G G' hi ⟨sg, o3, o4, o5, o6, o7, rfl⟩ ⟨rfl, hx⟩
    obtain ⟨l, tl, ol, kl⟩ := items x (List.mem_of_getElem? hx)
    have tg := TreeAt.same sg _ tl
    clear tl
    have od := okT_told ol
    refine ⟨_, rfl, x, _, rfl, tg, ol.fit, ol.dp, fun G1 hv n1 => ?_⟩
    refine ⟨_, rfl, hv, rfl, .inl ⟨_, n1.at_, ol, fun G2 s2 => ?_⟩⟩
    have tx2 := TreeAt.same (n1.1.trans s2) _ tg
    have th2 := TreeAt.same s2 _ n1.at_
    refine ⟨_, rfl, _, _, .type "str", .type "str", true, rfl, ClsV.ty _, .base (.str _), kit_ty (by decide +kernel), _, rfl, iteF ?_⟩
    refine ⟨_, rfl, _, rfl, x, _, rfl, tx2, ol.fit, ol.dp, fun G3 r3 n3 => ?_⟩
    refine ⟨r3, _, rfl, n3.at_, Nat.le_trans od.1 (by decide), od.dp, fun G4 s4 => ?_⟩
    refine ⟨rfl, _, rfl, iteNS rfl ?_⟩
    have s24 := n3.1.trans s4
    refine ⟨_, rfl, _, rfl, ne_trees (TreeAt.same s24 _ th2) (TreeAt.same s24 _ tx2) (dep63 ol) (dep63 ol) ⟨_, rfl, iteNS rfl ?_⟩⟩
    obtain ⟨m, em⟩ : ∃ m, told (.mk l) = .mk m := by cases told (.mk l); exact ⟨_, rfl⟩
    rw [em] at od
    rw [em, txt_mk]
    have gm := good_txt od
    have lm : (txtL m).length ≤ 598 := by
      have h1 := txtL_len m
      have h2 := od.1
      rw [knots] at h2
      omega
    have rm : rdL [[]] (txtL m) = some [m] := rdS_rdL _ _ _ (by have := od.2; rw [depth] at this; exact this) (rdS_txtL m)
    refine ⟨_, rfl, _, rfl, .inl ⟨txtL m, rfl, gm.1, lm, fun t' ht' G5 r5 n5' => ?_, fun hn => absurd rm (hn m)⟩⟩
    have et : t' = m := by rw [rm] at ht'; injection ht' with h; injection h with h; exact h.symm
    subst et
    have tx5 := TreeAt.same (s24.trans n5'.1) _ tx2
    refine ⟨_, rfl, x, _, rfl, tx5, ol.fit, ol.dp, fun G6 r6 n6' => ?_⟩
    have t6 := n6'.at_
    rw [em] at t6
    refine ne_trees (TreeAt.same n6'.1 _ n5'.at_) t6 (dep63 od) (dep63 od) ⟨_, rfl, iteNS rfl ?_⟩
    refine ⟨_, rfl, x, _, rfl, TreeAt.same n6'.1 _ tx5, Nat.le_trans ol.1 (by decide), ol.dp, fun G7 s7 => ?_⟩
    refine ⟨txtL l, by rw [txt_mk]; rfl, good_txt ol, fun G8 s8 => ⟨_, rfl, iteF ?_⟩⟩
    have sall : Same HL G8 := sg.trans (n1.1.trans (s2.trans (s24.trans (n5'.1.trans (n6'.1.trans (s7.trans s8))))))
    -- at
    have lmS := mkS_len (txtL t')
    have szm : (mkS (txtL t')).length ≤ sizeLine := by omega
    refine ⟨_, rfl, _, _, rfl, rfl, wide_div (b := 2) (by decide) (by decide) (by decide) (by decide), _, rfl, _, rfl, szm, _, _, rfl, rfl, _, _, rfl, rfl, (by show (0 : Int) < ((mkS (txtL t')).length : Nat) + 1; omega), ?_⟩
    have a0 : 0 ≤ wh / 3 % (((mkS (txtL t')).length : Nat) + 1 : Int) := Int.emod_nonneg _ (by omega)
    have a1 : wh / 3 % (((mkS (txtL t')).length : Nat) + 1 : Int) < ((mkS (txtL t')).length : Nat) + 1 := Int.emod_lt_of_pos _ (by omega)
    show tSeq _ _ _ [some (V.ref a), some (.int wh), some (.ref pf), some x, some hv, some (.str (mkS (txtL t'))), some (.int (wh / 3 % (((mkS (txtL t')).length : Nat) + 1 : Int))), o7, _, _, _] _
    generalize wh / 3 % (((mkS (txtL t')).length : Nat) + 1 : Int) = wi at a0 a1 ⊢
    obtain ⟨at_, rfl⟩ : ∃ k : Nat, wi = (k : Int) := ⟨wi.toNat, by omega⟩
    have hat : at_ ≤ (txtL t').length := by omega
    have hlm : (at_ : Int) + 1 = ((at_ + 1 : Nat) : Int) := by omega
    have l1 : ((txtL t').take at_).length ≤ 598 := by rw [List.length_take]; omega
    have l2 : ((txtL t').drop (at_ + 1)).length ≤ 598 := by rw [List.length_drop]; omega
    refine ⟨_, rfl, _, rfl, _, rfl, _, rfl, szm, ?_⟩
    rw [cutS_take]
    refine ⟨_, rfl, _, rfl, _, _, rfl, rfl, _, rfl, _, rfl, szm, ?_⟩
    rw [hlm, cutS_drop]
    refine ⟨_, _, rfl, rfl, by rw [mkS_len, mkS_len]; omega, ?_⟩
    rw [mkS_append]
    refine ⟨_, rfl, _, rfl, _, rfl, _, rfl, szm, ?_⟩
    rw [cutS_take]
    refine ⟨_, _, rfl, rfl, by rw [lit40, mkS_len, mkS_len]; show _ + 1 ≤ _; omega, ?_⟩
    rw [lit40, mkS_append]
    refine ⟨_, rfl, _, rfl, _, _, rfl, rfl, _, rfl, _, rfl, szm, ?_⟩
    rw [hlm, cutS_drop]
    refine ⟨_, _, rfl, rfl, by rw [mkS_len, mkS_len, List.length_append]; show _ + 1 + _ ≤ _; omega, ?_⟩
    rw [mkS_append]
    refine ⟨_, rfl, _, rfl, _, rfl, _, rfl, szm, ?_⟩
    rw [cutS_take]
    refine ⟨_, _, rfl, rfl, by rw [lit41, mkS_len, mkS_len]; show _ + 1 ≤ _; omega, ?_⟩
    rw [lit41, mkS_append]
    refine ⟨_, rfl, _, rfl, _, _, rfl, rfl, _, rfl, _, rfl, szm, ?_⟩
    rw [hlm, cutS_drop]
    refine ⟨_, _, rfl, rfl, by rw [mkS_len, mkS_len, List.length_append]; show _ + 1 + _ ≤ _; omega, ?_⟩
    rw [mkS_append]
    refine ⟨(by show 3 ≤ sizeLine; decide), fun B nB => ?_⟩
    obtain ⟨bts, hbts⟩ : ∃ bts : List (List Nat), bts = [(txtL t').take at_ ++ (txtL t').drop (at_ + 1), (txtL t').take at_ ++ [40] ++ (txtL t').drop (at_ + 1), (txtL t').take at_ ++ [41] ++ (txtL t').drop (at_ + 1)] := ⟨_, rfl⟩
    have good : ∀ y, y ∈ bts → goodTx y := by
      intro y hy
      rw [hbts] at hy
      simp only [List.mem_cons, List.mem_nil_iff, or_false] at hy
      rcases hy with e | e | e <;> rw [e]
      · exact good_cut od at_ hat
      · exact good_put od at_ hat 40 (.inl rfl)
      · exact good_put od at_ hat 41 (.inr rfl)
    have sB := same_new nB (.lst (bts.map fun y => V.str (mkS y)))
    have uB : upd G8 B (.lst (bts.map fun y => V.str (mkS y))) B = some (.lst (bts.map fun y => V.str (mkS y))) := upd_same
    have eB : (bts.map fun y => V.str (mkS y)) = [V.str (mkS ((txtL t').take at_ ++ (txtL t').drop (at_ + 1))), .str (mkS ((txtL t').take at_ ++ [40] ++ (txtL t').drop (at_ + 1))), .str (mkS ((txtL t').take at_ ++ [41] ++ (txtL t').drop (at_ + 1)))] := by rw [hbts]; rfl
    rw [← eB]
    generalize upd G8 B (.lst (bts.map fun y => V.str (mkS y))) = G9 at sB uB ⊢
    refine ⟨B, rfl, ⟨_, SqL.of uB⟩, ?_⟩
    refine for_it (walk_list (xs := bts.map fun y => V.str (mkS y))) (fun i σ H' => Same G9 H' ∧ ∃ o7, σ = [some (V.ref a), some (.int wh), some (.ref pf), some x, some hv, some (.str (mkS (txtL t'))), some (.int (at_ : Nat)), o7, none, none, none]) ⟨Same.refl _, o7, rfl⟩ (fun i σ H' _ p => SqL.of (p.1 _ _ uB)) ?_ ?_
    · rintro i2 x2 σ J J' hi2 ⟨sj, o7', rfl⟩ ⟨rfl, hx2⟩
      obtain ⟨y, hy, rfl⟩ : ∃ y, y ∈ bts ∧ V.str (mkS y) = x2 := by
        have := List.mem_of_getElem? hx2
        exact List.mem_map.mp this
      refine ⟨_, rfl, y, rfl, good y hy, fun J1 sj1 => ⟨_, rfl, iteF ?_⟩⟩
      exact ⟨sj.trans sj1, _, rfl⟩
    rintro σ J ⟨sj, o7', rfl⟩
    have sJ := sall.trans (sB.trans sj)
    refine ⟨_, rfl, _, rfl, szm, _, _, rfl, rfl, _, rfl, ite2 (fun c => ?_) (fun _ => ?_)⟩
    · have c' : (((mkS (txtL t')).length : Nat) : Int) < 100 := of_decide_eq_true c
      have kt : knotsL t' ≤ 40 := by
        have h1 := txtL_len t'
        have h2 := knots_told (.mk l)
        rw [em, knots, knots] at h2
        omega
      refine ⟨_, rfl, _, rfl, _, rfl, _, rfl, szm, ?_⟩
      rw [cutS_drop]
      refine ⟨_, rfl, _, rfl, _, rfl, _, rfl, szm, ?_⟩
      rw [cutS_take]
      have l3 : ((txtL t').drop at_).length ≤ 598 := by rw [List.length_drop]; omega
      refine ⟨_, _, rfl, rfl, by rw [mkS_len, mkS_len]; omega, ?_⟩
      rw [mkS_append]
      refine ⟨_, rfl, good_short (brk_sub (txtL_brk t') fun c hc => ?_) ?_, fun J1 sj1 => ⟨_, rfl, iteF ?_⟩⟩
      · rcases List.mem_append.mp hc with hc | hc
        · exact List.mem_of_mem_drop hc
        · exact List.mem_of_mem_take hc
      · rw [List.length_append, List.length_take, List.length_drop]
        have h1 := txtL_len t'
        omega
      · exact ⟨sJ.trans sj1, _, _, _, _, _, rfl⟩
    · exact ⟨sJ, _, _, _, _, _, rfl⟩
  · rintro σ G ⟨sg, o3, o4, o5, o6, o7, rfl⟩
    have hSG := sg.seq hSL
    refine ⟨rfl, _, rfl, _, rfl, a, _, rfl, hSG, fun p3 np3 => ?_⟩
    have sp3 := same_new np3 (.lst (cutV (ns.map V.int) none (some 20)))
    have e20 : cutV (ns.map V.int) none (some 20) = (ns.take 20).map V.int := by
      have h := cutV_take (ns.map V.int) 20
      rw [List.map_take]
      exact h
    have up3 : upd G p3 (.lst (cutV (ns.map V.int) none (some 20))) p3 = some (.lst ((ns.take 20).map V.int)) := by rw [upd_same, e20]
    generalize upd G p3 (.lst (cutV (ns.map V.int) none (some 20))) = J0 at sp3 up3 ⊢
    have hB20 : ∀ n, n ∈ ns.take 20 → Bits n NB := bNB fun n hn => List.mem_of_mem_take hn
    have len20 : (ns.take 20).length ≤ 20 := by rw [List.length_take]; omega
    generalize ns.take 20 = cs at up3 hB20 len20
    refine ⟨p3, _, rfl, SqL.of up3, fun D nD => ?_⟩
    refine lc_it walk_enum (fun i H' => ∃ ys : List Nat, ys.length = i ∧ brk ys ∧ Fill J0 H' D ((ys.map fun c => mkS [c]).map V.str)) ⟨[], rfl, (fun c hc => by cases hc), Fill.start nD⟩ (fun i H' _ g => by obtain ⟨ys, _, _, g⟩ := g; exact SqL.of (g.1 _ _ up3)) ?_ ?_
    · rintro i x J1 J2 hi ⟨ys, ly, hby, g⟩ ⟨Tp, x1, y1, rfl, nT, rfl, hx, hy⟩
      cases hx
      rw [List.length_map] at hi
      have hci : cs[i]? = some cs[i] := List.getElem?_eq_getElem hi
      replace hy : (cs.map V.int)[i]? = some y1 := hy
      rw [List.getElem?_map, hci] at hy
      cases hy
      have mc := List.getElem_mem hi
      have sT := same_new nT (.tup [.int (i : Nat), .int cs[i]])
      have uT : upd J1 Tp (.tup [.int (i : Nat), .int cs[i]]) Tp = some (.tup [.int (i : Nat), .int cs[i]]) := upd_same
      generalize upd J1 Tp (.tup [.int (i : Nat), .int cs[i]]) = J2 at sT uT ⊢
      refine ⟨Tp, _, rfl, SqT.of uT, rfl, _, _, rfl, _, _, rfl, rfl, rfl, ?_⟩
      refine ⟨_, rfl, _, rfl, _, rfl, cs[i], wh, i, rfl, hB20 _ mc, bw, by omega, fun z _ => ?_⟩
      refine ⟨_, _, rfl, rfl, wide_div (b := 2) (by decide) (by decide) (by decide) (by decide), _, _, rfl, rfl, (by show (0 : Int) < 2; decide), ?_⟩
      have z0 := Int.emod_nonneg (z / 3) (b := 2) (by decide)
      have z1 := Int.emod_lt_of_pos (z / 3) (b := 2) (by decide)
      show rIxS _ (V.int (z / 3 % 2)) _ _
      generalize z / 3 % 2 = zz at z0 z1 ⊢
      obtain ⟨c, hc, ec⟩ : ∃ c : Nat, (c = 40 ∨ c = 41) ∧ atI (Str.ofString "()").cps.toList zz = some c := by
        have h : zz = 0 ∨ zz = 1 := by omega
        rcases h with h | h <;> subst h
        · exact ⟨40, .inl rfl, by decide +kernel⟩
        · exact ⟨41, .inr rfl, by decide +kernel⟩
      obtain ⟨h1, h2⟩ := g.more (v := .str (mkS [c])) sT
      refine ⟨_, zz, c, rfl, rfl, (by rw [litB, mkS_len]; show 2 ≤ sizeLine; decide), ec, _, h1, ?_, ys ++ [c], ?_, ?_, ?_⟩
      · rw [List.length_map, List.length_map, ly]; omega
      · rw [List.length_append, ly]; rfl
      · intro d hd
        rcases List.mem_append.mp hd with hd | hd
        · exact hby d hd
        · rw [List.mem_singleton] at hd; rw [hd]; exact hc
      · rw [List.map_append, List.map_append]; exact h2
    rintro J1 ⟨ys, ly, hby, g⟩
    have ly' : ys.length ≤ 20 := by rw [ly, List.length_map]; exact len20
    refine ⟨_, D, ys.map fun c => mkS [c], rfl, rfl, .inl (SqL.of g.2.2), ?_, ?_⟩
    · have e1 : ((ys.map fun c => mkS [c]).map fun x => x.length).sum = ys.length := by
        exact ones_len ys
      rw [e1, litE, mkS_len, List.length_nil, Nat.mul_zero]
      omega
    have e2 : (ys.map fun c => mkS [c]) = (ys.map fun c => [c]).map mkS := by rw [List.map_map]; rfl
    have e3 : (ys.map fun c => [c]).flatten = ys := by
      exact ones_flat ys
    rw [litE, e2, join_nil, e3]
    refine ⟨_, rfl, ys, rfl, good_short hby (by omega), fun J2 s2 => ⟨_, rfl, iteT ?_⟩⟩
    refine ⟨_, _, rfl, rfl, ⟨by decide +kernel, fun _ _ => by decide +kernel, fun _ _ => by decide +kernel⟩, _, _, rfl, rfl, ⟨by decide +kernel, fun _ _ => by decide +kernel, fun _ _ => by decide +kernel⟩, ?_⟩
    have e4 : Txt.mul (Str.ofString "(") 40 = mkS (List.replicate 40 40) := by decide +kernel
    have e5 : Txt.mul (Str.ofString ")") 40 = mkS (List.replicate 40 41) := by decide +kernel
    rw [e4, e5]
    refine ⟨_, _, rfl, rfl, by rw [mkS_len, mkS_len]; decide, ?_⟩
    rw [mkS_append]
    refine ⟨_, rfl, good_short ?_ (by decide), fun J3 s3 => ⟨_, rfl, iteT ?_⟩⟩
    · intro c hc
      rcases List.mem_append.mp hc with hc | hc
      · exact .inl (List.eq_of_mem_replicate hc)
      · exact .inr (List.eq_of_mem_replicate hc)
    have lt : LitE _ (.mk [.mk [], .mk [.mk []]]) := lit_lst (lit_cons lit0 (lit_cons (lit_lst (lit_cons lit0 lit_nil)) lit_nil))
    show tOp _ (tCall _ _ _ _) _ _ _ _
    show tCall _ _ _ (tCons _ _) _ _ _
    show tCons _ _ _ _ _
    show tLst _ _ _ _
    refine lt _ _ _ fun J4 v4 s4 t4 => ?_
    refine ⟨_, rfl, .inl ⟨_, t4, ⟨by decide +kernel, by decide +kernel⟩, fun J5 s5 => ⟨rfl, ?_⟩⟩⟩
    have e6 : decide (V.str (mkS (txt (told (.mk [.mk [], .mk [.mk []]])))) = V.str (Str.ofString "(())()")) = true := by decide +kernel
    rw [e6]
    exact q _
end
theorem all_mk {l : PySem.W.OpenLaw} {w : World} {K : PySem.W.Frag} {h : Heap} {mg : Str → Option Value} {fa : Addr} (X : K.In h) (G : h.Ns mainGlobals mg) (hfa : mg "law" = some (.ref fa))
    {a_is_tree : Addr} {od0 an0 : Option Addr} {sl0 : Array (Option Value)} {oc0 kV0 dc0 pm0 cd0 ct0 : Value}
    {a_asked_tree : Addr} {od1 an1 : Option Addr} {sl1 : Array (Option Value)} {oc1 kV1 dc1 pm1 cd1 ct1 : Value}
    {a_compared : Addr} {od2 an2 : Option Addr} {sl2 : Array (Option Value)} {oc2 kV2 dc2 pm2 cd2 ct2 : Value}
    {a_merged : Addr} {od3 an3 : Option Addr} {sl3 : Array (Option Value)} {oc3 kV3 dc3 pm3 cd3 ct3 : Value}
    {a_copied : Addr} {od4 an4 : Option Addr} {sl4 : Array (Option Value)} {oc4 kV4 dc4 pm4 cd4 ct4 : Value}
    {a_told_of : Addr} {od5 an5 : Option Addr} {sl5 : Array (Option Value)} {oc5 kV5 dc5 pm5 cd5 ct5 : Value}
    {a_text_of : Addr} {od6 an6 : Option Addr} {sl6 : Array (Option Value)} {oc6 kV6 dc6 pm6 cd6 ct6 : Value}
    {a_text : Addr} {od7 an7 : Option Addr} {sl7 : Array (Option Value)} {oc7 kV7 dc7 pm7 cd7 ct7 : Value}
    {a_read : Addr} {od8 an8 : Option Addr} {sl8 : Array (Option Value)} {oc8 kV8 dc8 pm8 cd8 ct8 : Value}
    {a__law_number : Addr} {od9 an9 : Option Addr} {sl9 : Array (Option Value)} {oc9 kV9 dc9 pm9 cd9 ct9 : Value}
    {a__law_tree : Addr} {od10 an10 : Option Addr} {sl10 : Array (Option Value)} {oc10 kV10 dc10 pm10 cd10 ct10 : Value}
    {a__law_copied : Addr} {od11 an11 : Option Addr} {sl11 : Array (Option Value)} {oc11 kV11 dc11 pm11 cd11 ct11 : Value}
    {a__law_more : Addr} {od12 an12 : Option Addr} {sl12 : Array (Option Value)} {oc12 kV12 dc12 pm12 cd12 ct12 : Value}
    {a__law_told : Addr} {od13 an13 : Option Addr} {sl13 : Array (Option Value)} {oc13 kV13 dc13 pm13 cd13 ct13 : Value}
    {a__law_is_tree : Addr} {od14 an14 : Option Addr} {sl14 : Array (Option Value)} {oc14 kV14 dc14 pm14 cd14 ct14 : Value}
    {a__law_own : Addr} {od15 an15 : Option Addr} {sl15 : Array (Option Value)} {oc15 kV15 dc15 pm15 cd15 ct15 : Value}
    {a__law_spoilt : Addr} {od16 an16 : Option Addr} {sl16 : Array (Option Value)} {oc16 kV16 dc16 pm16 cd16 ct16 : Value}
    {a__law_text : Addr} {od17 an17 : Option Addr} {sl17 : Array (Option Value)} {oc17 kV17 dc17 pm17 cd17 ct17 : Value}
    {a__law_read : Addr} {od18 an18 : Option Addr} {sl18 : Array (Option Value)} {oc18 kV18 dc18 pm18 cd18 ct18 : Value}
    {a__law_refused : Addr} {od19 an19 : Option Addr} {sl19 : Array (Option Value)} {oc19 kV19 dc19 pm19 cd19 ct19 : Value}
    {a__law_read_right : Addr} {od20 an20 : Option Addr} {sl20 : Array (Option Value)} {oc20 kV20 dc20 pm20 cd20 ct20 : Value}
    {a_law : Addr} {od21 an21 : Option Addr} {sl21 : Array (Option Value)} {oc21 kV21 dc21 pm21 cd21 ct21 : Value}
    {t_MOST : Tok}
    {t_DEEPEST : Tok}
    {A_HeadError : Addr}
    {A_BadTree : Addr}
    {A_BadWay : Addr}
    {A_BadTimes : Addr}
    {A_BadNumber : Addr}
    {A_BadBase : Addr}
    {A_BadText : Addr}
    {A_TooGreat : Addr}
    (n0 : PySem.W.nsIn K mainGlobals "is_tree" = some (some (.ref a_is_tree))) (l0 : K.lookup a_is_tree = some ⟨oc0, od0, .func (PySem.W.fnOf "is_tree" "is_tree" (defArgs s_is_tree) (defBody s_is_tree) (defScope s_is_tree) .none kV0 dc0 pm0 an0 cd0 ct0), sl0⟩) (c0 : PySem.W.codeIn K cd0 "is_tree" = true) (k0 : PySem.W.keepIn K (.ref a_is_tree) = true)
    (n1 : PySem.W.nsIn K mainGlobals "asked_tree" = some (some (.ref a_asked_tree))) (l1 : K.lookup a_asked_tree = some ⟨oc1, od1, .func (PySem.W.fnOf "asked_tree" "asked_tree" (defArgs s_asked_tree) (defBody s_asked_tree) (defScope s_asked_tree) .none kV1 dc1 pm1 an1 cd1 ct1), sl1⟩) (c1 : PySem.W.codeIn K cd1 "asked_tree" = true) (k1 : PySem.W.keepIn K (.ref a_asked_tree) = true)
    (n2 : PySem.W.nsIn K mainGlobals "compared" = some (some (.ref a_compared))) (l2 : K.lookup a_compared = some ⟨oc2, od2, .func (PySem.W.fnOf "compared" "compared" (defArgs s_compared) (defBody s_compared) (defScope s_compared) .none kV2 dc2 pm2 an2 cd2 ct2), sl2⟩) (c2 : PySem.W.codeIn K cd2 "compared" = true) (k2 : PySem.W.keepIn K (.ref a_compared) = true)
    (n3 : PySem.W.nsIn K mainGlobals "merged" = some (some (.ref a_merged))) (l3 : K.lookup a_merged = some ⟨oc3, od3, .func (PySem.W.fnOf "merged" "merged" (defArgs s_merged) (defBody s_merged) (defScope s_merged) .none kV3 dc3 pm3 an3 cd3 ct3), sl3⟩) (c3 : PySem.W.codeIn K cd3 "merged" = true) (k3 : PySem.W.keepIn K (.ref a_merged) = true)
    (n4 : PySem.W.nsIn K mainGlobals "copied" = some (some (.ref a_copied))) (l4 : K.lookup a_copied = some ⟨oc4, od4, .func (PySem.W.fnOf "copied" "copied" (defArgs s_copied) (defBody s_copied) (defScope s_copied) .none kV4 dc4 pm4 an4 cd4 ct4), sl4⟩) (c4 : PySem.W.codeIn K cd4 "copied" = true) (k4 : PySem.W.keepIn K (.ref a_copied) = true)
    (n5 : PySem.W.nsIn K mainGlobals "told_of" = some (some (.ref a_told_of))) (l5 : K.lookup a_told_of = some ⟨oc5, od5, .func (PySem.W.fnOf "told_of" "told_of" (defArgs s_told_of) (defBody s_told_of) (defScope s_told_of) .none kV5 dc5 pm5 an5 cd5 ct5), sl5⟩) (c5 : PySem.W.codeIn K cd5 "told_of" = true) (k5 : PySem.W.keepIn K (.ref a_told_of) = true)
    (n6 : PySem.W.nsIn K mainGlobals "text_of" = some (some (.ref a_text_of))) (l6 : K.lookup a_text_of = some ⟨oc6, od6, .func (PySem.W.fnOf "text_of" "text_of" (defArgs s_text_of) (defBody s_text_of) (defScope s_text_of) .none kV6 dc6 pm6 an6 cd6 ct6), sl6⟩) (c6 : PySem.W.codeIn K cd6 "text_of" = true) (k6 : PySem.W.keepIn K (.ref a_text_of) = true)
    (n7 : PySem.W.nsIn K mainGlobals "text" = some (some (.ref a_text))) (l7 : K.lookup a_text = some ⟨oc7, od7, .func (PySem.W.fnOf "text" "text" (defArgs s_text) (defBody s_text) (defScope s_text) .none kV7 dc7 pm7 an7 cd7 ct7), sl7⟩) (c7 : PySem.W.codeIn K cd7 "text" = true) (k7 : PySem.W.keepIn K (.ref a_text) = true)
    (n8 : PySem.W.nsIn K mainGlobals "read" = some (some (.ref a_read))) (l8 : K.lookup a_read = some ⟨oc8, od8, .func (PySem.W.fnOf "read" "read" (defArgs s_read) (defBody s_read) (defScope s_read) .none kV8 dc8 pm8 an8 cd8 ct8), sl8⟩) (c8 : PySem.W.codeIn K cd8 "read" = true) (k8 : PySem.W.keepIn K (.ref a_read) = true)
    (n9 : PySem.W.nsIn K mainGlobals "_law_number" = some (some (.ref a__law_number))) (l9 : K.lookup a__law_number = some ⟨oc9, od9, .func (PySem.W.fnOf "_law_number" "_law_number" (defArgs s__law_number) (defBody s__law_number) (defScope s__law_number) .none kV9 dc9 pm9 an9 cd9 ct9), sl9⟩) (c9 : PySem.W.codeIn K cd9 "_law_number" = true) (k9 : PySem.W.keepIn K (.ref a__law_number) = true)
    (n10 : PySem.W.nsIn K mainGlobals "_law_tree" = some (some (.ref a__law_tree))) (l10 : K.lookup a__law_tree = some ⟨oc10, od10, .func (PySem.W.fnOf "_law_tree" "_law_tree" (defArgs s__law_tree) (defBody s__law_tree) (defScope s__law_tree) .none kV10 dc10 pm10 an10 cd10 ct10), sl10⟩) (c10 : PySem.W.codeIn K cd10 "_law_tree" = true) (k10 : PySem.W.keepIn K (.ref a__law_tree) = true)
    (n11 : PySem.W.nsIn K mainGlobals "_law_copied" = some (some (.ref a__law_copied))) (l11 : K.lookup a__law_copied = some ⟨oc11, od11, .func (PySem.W.fnOf "_law_copied" "_law_copied" (defArgs s__law_copied) (defBody s__law_copied) (defScope s__law_copied) .none kV11 dc11 pm11 an11 cd11 ct11), sl11⟩) (c11 : PySem.W.codeIn K cd11 "_law_copied" = true) (k11 : PySem.W.keepIn K (.ref a__law_copied) = true)
    (n12 : PySem.W.nsIn K mainGlobals "_law_more" = some (some (.ref a__law_more))) (l12 : K.lookup a__law_more = some ⟨oc12, od12, .func (PySem.W.fnOf "_law_more" "_law_more" (defArgs s__law_more) (defBody s__law_more) (defScope s__law_more) .none kV12 dc12 pm12 an12 cd12 ct12), sl12⟩) (c12 : PySem.W.codeIn K cd12 "_law_more" = true) (k12 : PySem.W.keepIn K (.ref a__law_more) = true)
    (n13 : PySem.W.nsIn K mainGlobals "_law_told" = some (some (.ref a__law_told))) (l13 : K.lookup a__law_told = some ⟨oc13, od13, .func (PySem.W.fnOf "_law_told" "_law_told" (defArgs s__law_told) (defBody s__law_told) (defScope s__law_told) .none kV13 dc13 pm13 an13 cd13 ct13), sl13⟩) (c13 : PySem.W.codeIn K cd13 "_law_told" = true) (k13 : PySem.W.keepIn K (.ref a__law_told) = true)
    (n14 : PySem.W.nsIn K mainGlobals "_law_is_tree" = some (some (.ref a__law_is_tree))) (l14 : K.lookup a__law_is_tree = some ⟨oc14, od14, .func (PySem.W.fnOf "_law_is_tree" "_law_is_tree" (defArgs s__law_is_tree) (defBody s__law_is_tree) (defScope s__law_is_tree) .none kV14 dc14 pm14 an14 cd14 ct14), sl14⟩) (c14 : PySem.W.codeIn K cd14 "_law_is_tree" = true) (k14 : PySem.W.keepIn K (.ref a__law_is_tree) = true)
    (n15 : PySem.W.nsIn K mainGlobals "_law_own" = some (some (.ref a__law_own))) (l15 : K.lookup a__law_own = some ⟨oc15, od15, .func (PySem.W.fnOf "_law_own" "_law_own" (defArgs s__law_own) (defBody s__law_own) (defScope s__law_own) .none kV15 dc15 pm15 an15 cd15 ct15), sl15⟩) (c15 : PySem.W.codeIn K cd15 "_law_own" = true) (k15 : PySem.W.keepIn K (.ref a__law_own) = true)
    (n16 : PySem.W.nsIn K mainGlobals "_law_spoilt" = some (some (.ref a__law_spoilt))) (l16 : K.lookup a__law_spoilt = some ⟨oc16, od16, .func (PySem.W.fnOf "_law_spoilt" "_law_spoilt" (defArgs s__law_spoilt) (defBody s__law_spoilt) (defScope s__law_spoilt) .none kV16 dc16 pm16 an16 cd16 ct16), sl16⟩) (c16 : PySem.W.codeIn K cd16 "_law_spoilt" = true) (k16 : PySem.W.keepIn K (.ref a__law_spoilt) = true)
    (n17 : PySem.W.nsIn K mainGlobals "_law_text" = some (some (.ref a__law_text))) (l17 : K.lookup a__law_text = some ⟨oc17, od17, .func (PySem.W.fnOf "_law_text" "_law_text" (defArgs s__law_text) (defBody s__law_text) (defScope s__law_text) .none kV17 dc17 pm17 an17 cd17 ct17), sl17⟩) (c17 : PySem.W.codeIn K cd17 "_law_text" = true) (k17 : PySem.W.keepIn K (.ref a__law_text) = true)
    (n18 : PySem.W.nsIn K mainGlobals "_law_read" = some (some (.ref a__law_read))) (l18 : K.lookup a__law_read = some ⟨oc18, od18, .func (PySem.W.fnOf "_law_read" "_law_read" (defArgs s__law_read) (defBody s__law_read) (defScope s__law_read) .none kV18 dc18 pm18 an18 cd18 ct18), sl18⟩) (c18 : PySem.W.codeIn K cd18 "_law_read" = true) (k18 : PySem.W.keepIn K (.ref a__law_read) = true)
    (n19 : PySem.W.nsIn K mainGlobals "_law_refused" = some (some (.ref a__law_refused))) (l19 : K.lookup a__law_refused = some ⟨oc19, od19, .func (PySem.W.fnOf "_law_refused" "_law_refused" (defArgs s__law_refused) (defBody s__law_refused) (defScope s__law_refused) .none kV19 dc19 pm19 an19 cd19 ct19), sl19⟩) (c19 : PySem.W.codeIn K cd19 "_law_refused" = true) (k19 : PySem.W.keepIn K (.ref a__law_refused) = true)
    (n20 : PySem.W.nsIn K mainGlobals "_law_read_right" = some (some (.ref a__law_read_right))) (l20 : K.lookup a__law_read_right = some ⟨oc20, od20, .func (PySem.W.fnOf "_law_read_right" "_law_read_right" (defArgs s__law_read_right) (defBody s__law_read_right) (defScope s__law_read_right) .none kV20 dc20 pm20 an20 cd20 ct20), sl20⟩) (c20 : PySem.W.codeIn K cd20 "_law_read_right" = true) (k20 : PySem.W.keepIn K (.ref a__law_read_right) = true)
    (n21 : PySem.W.nsIn K mainGlobals "law" = some (some (.ref a_law))) (l21 : K.lookup a_law = some ⟨oc21, od21, .func (PySem.W.fnOf "law" "law" (defArgs s_law) (defBody s_law) (defScope s_law) .none kV21 dc21 pm21 an21 cd21 ct21), sl21⟩) (c21 : PySem.W.codeIn K cd21 "law" = true) (k21 : PySem.W.keepIn K (.ref a_law) = true)
    (z_len : PySem.W.nsIn K mainGlobals "len" = some none)
    (z_list : PySem.W.nsIn K mainGlobals "list" = some none)
    (z_range : PySem.W.nsIn K mainGlobals "range" = some none)
    (z_zip : PySem.W.nsIn K mainGlobals "zip" = some none)
    (z_enumerate : PySem.W.nsIn K mainGlobals "enumerate" = some none)
    (z_min : PySem.W.nsIn K mainGlobals "min" = some none)
    (z_sum : PySem.W.nsIn K mainGlobals "sum" = some none)
    (z_all : PySem.W.nsIn K mainGlobals "all" = some none)
    (z_any : PySem.W.nsIn K mainGlobals "any" = some none)
    (z_isinstance : PySem.W.nsIn K mainGlobals "isinstance" = some none)
    (z_str : PySem.W.nsIn K mainGlobals "str" = some none)
    (c_MOST : PySem.W.nsIn K mainGlobals "MOST" = some (some (.int 300 t_MOST)))
    (c_DEEPEST : PySem.W.nsIn K mainGlobals "DEEPEST" = some (some (.int 40 t_DEEPEST)))
    (g_HeadError : PySem.W.nsIn K mainGlobals "HeadError" = some (some (.ref A_HeadError)))
    (kk_HeadError : PySem.W.keepIn K (.ref A_HeadError) = true)
    (x_HeadError : PySem.W.excIn K A_HeadError [.type "ValueError", .type "Exception", .type "BaseException", .type "object"] "ValueError.__new__" = true)
    (sb_HeadError : PySem.W.subIn K (.ref A_HeadError) (.type "BaseException") = some true)
    (tt_HeadError : PySem.W.typeIn K (.ref A_HeadError) = some (.type "type"))
    (g_BadTree : PySem.W.nsIn K mainGlobals "BadTree" = some (some (.ref A_BadTree)))
    (kk_BadTree : PySem.W.keepIn K (.ref A_BadTree) = true)
    (x_BadTree : PySem.W.excIn K A_BadTree [.type "ValueError", .type "Exception", .type "BaseException", .type "object"] "ValueError.__new__" = true)
    (sb_BadTree : PySem.W.subIn K (.ref A_BadTree) (.type "BaseException") = some true)
    (tt_BadTree : PySem.W.typeIn K (.ref A_BadTree) = some (.type "type"))
    (g_BadWay : PySem.W.nsIn K mainGlobals "BadWay" = some (some (.ref A_BadWay)))
    (kk_BadWay : PySem.W.keepIn K (.ref A_BadWay) = true)
    (x_BadWay : PySem.W.excIn K A_BadWay [.type "ValueError", .type "Exception", .type "BaseException", .type "object"] "ValueError.__new__" = true)
    (sb_BadWay : PySem.W.subIn K (.ref A_BadWay) (.type "BaseException") = some true)
    (tt_BadWay : PySem.W.typeIn K (.ref A_BadWay) = some (.type "type"))
    (g_BadTimes : PySem.W.nsIn K mainGlobals "BadTimes" = some (some (.ref A_BadTimes)))
    (kk_BadTimes : PySem.W.keepIn K (.ref A_BadTimes) = true)
    (x_BadTimes : PySem.W.excIn K A_BadTimes [.type "ValueError", .type "Exception", .type "BaseException", .type "object"] "ValueError.__new__" = true)
    (sb_BadTimes : PySem.W.subIn K (.ref A_BadTimes) (.type "BaseException") = some true)
    (tt_BadTimes : PySem.W.typeIn K (.ref A_BadTimes) = some (.type "type"))
    (g_BadNumber : PySem.W.nsIn K mainGlobals "BadNumber" = some (some (.ref A_BadNumber)))
    (kk_BadNumber : PySem.W.keepIn K (.ref A_BadNumber) = true)
    (x_BadNumber : PySem.W.excIn K A_BadNumber [.type "ValueError", .type "Exception", .type "BaseException", .type "object"] "ValueError.__new__" = true)
    (sb_BadNumber : PySem.W.subIn K (.ref A_BadNumber) (.type "BaseException") = some true)
    (tt_BadNumber : PySem.W.typeIn K (.ref A_BadNumber) = some (.type "type"))
    (g_BadBase : PySem.W.nsIn K mainGlobals "BadBase" = some (some (.ref A_BadBase)))
    (kk_BadBase : PySem.W.keepIn K (.ref A_BadBase) = true)
    (x_BadBase : PySem.W.excIn K A_BadBase [.type "ValueError", .type "Exception", .type "BaseException", .type "object"] "ValueError.__new__" = true)
    (sb_BadBase : PySem.W.subIn K (.ref A_BadBase) (.type "BaseException") = some true)
    (tt_BadBase : PySem.W.typeIn K (.ref A_BadBase) = some (.type "type"))
    (g_BadText : PySem.W.nsIn K mainGlobals "BadText" = some (some (.ref A_BadText)))
    (kk_BadText : PySem.W.keepIn K (.ref A_BadText) = true)
    (x_BadText : PySem.W.excIn K A_BadText [.type "ValueError", .type "Exception", .type "BaseException", .type "object"] "ValueError.__new__" = true)
    (sb_BadText : PySem.W.subIn K (.ref A_BadText) (.type "BaseException") = some true)
    (tt_BadText : PySem.W.typeIn K (.ref A_BadText) = some (.type "type"))
    (g_TooGreat : PySem.W.nsIn K mainGlobals "TooGreat" = some (some (.ref A_TooGreat)))
    (kk_TooGreat : PySem.W.keepIn K (.ref A_TooGreat) = true)
    (x_TooGreat : PySem.W.excIn K A_TooGreat [.type "ValueError", .type "Exception", .type "BaseException", .type "object"] "ValueError.__new__" = true)
    (sb_TooGreat : PySem.W.subIn K (.ref A_TooGreat) (.type "BaseException") = some true)
    (tt_TooGreat : PySem.W.typeIn K (.ref A_TooGreat) = some (.type "type"))
    (hd_HeadError : PySem.W.hasDictIn K A_HeadError = true)
    (e_hn : PySem.W.specialIn K (.builtin "object.__class__") "__get__" = some (some (.builtin "getset_descriptor.__get__")))
    (e_ht : PySem.W.takesIn K (.builtin "object.__class__") = some true)
    (e_hg_BadTree : PySem.W.findIn K (.ref A_BadTree) "__getattribute__" = some (some (.builtin "BaseException.__getattribute__")))
    (e_hk_BadTree : PySem.W.findIn K (.ref A_BadTree) "__getattr__" = some none)
    (e_hd_BadTree : PySem.W.hasDictIn K A_BadTree = true)
    (e_ha_BadTree : PySem.W.findIn K (.ref A_BadTree) "__class__" = some (some (.builtin "object.__class__")))
    (e_hm_BadTree : PySem.W.mroIn K A_BadTree (.type "object") = some true)
    (su_BadTree : PySem.W.subIn K (.ref A_BadTree) (.ref A_HeadError) = some true)
    (kt_BadTree_BadBase : PySem.W.subIn K (.ref A_BadTree) (.ref A_BadBase) = some false)
    (kt_BadTree_BadNumber : PySem.W.subIn K (.ref A_BadTree) (.ref A_BadNumber) = some false)
    (kt_BadTree_BadTimes : PySem.W.subIn K (.ref A_BadTree) (.ref A_BadTimes) = some false)
    (kt_BadTree_BadText : PySem.W.subIn K (.ref A_BadTree) (.ref A_BadText) = some false)
    (kt_BadTree_BadTree : PySem.W.subIn K (.ref A_BadTree) (.ref A_BadTree) = some true)
    (kt_BadTree_BadWay : PySem.W.subIn K (.ref A_BadTree) (.ref A_BadWay) = some false)
    (kt_BadTree_TooGreat : PySem.W.subIn K (.ref A_BadTree) (.ref A_TooGreat) = some false)
    (ks_BadTree : PySem.W.subIn K (.ref A_BadTree) (.ref A_BadTree) = some true)
    (e_hg_BadText : PySem.W.findIn K (.ref A_BadText) "__getattribute__" = some (some (.builtin "BaseException.__getattribute__")))
    (e_hk_BadText : PySem.W.findIn K (.ref A_BadText) "__getattr__" = some none)
    (e_hd_BadText : PySem.W.hasDictIn K A_BadText = true)
    (e_ha_BadText : PySem.W.findIn K (.ref A_BadText) "__class__" = some (some (.builtin "object.__class__")))
    (e_hm_BadText : PySem.W.mroIn K A_BadText (.type "object") = some true)
    (su_BadText : PySem.W.subIn K (.ref A_BadText) (.ref A_HeadError) = some true)
    (kt_BadText_BadBase : PySem.W.subIn K (.ref A_BadText) (.ref A_BadBase) = some false)
    (kt_BadText_BadNumber : PySem.W.subIn K (.ref A_BadText) (.ref A_BadNumber) = some false)
    (kt_BadText_BadTimes : PySem.W.subIn K (.ref A_BadText) (.ref A_BadTimes) = some false)
    (kt_BadText_BadText : PySem.W.subIn K (.ref A_BadText) (.ref A_BadText) = some true)
    (kt_BadText_BadTree : PySem.W.subIn K (.ref A_BadText) (.ref A_BadTree) = some false)
    (kt_BadText_BadWay : PySem.W.subIn K (.ref A_BadText) (.ref A_BadWay) = some false)
    (kt_BadText_TooGreat : PySem.W.subIn K (.ref A_BadText) (.ref A_TooGreat) = some false)
    (ks_BadText : PySem.W.subIn K (.ref A_BadText) (.ref A_BadText) = some true)
    (ic_BadBase : PySem.W.isClsIn K A_BadBase = true)
    (ic_BadNumber : PySem.W.isClsIn K A_BadNumber = true)
    (ic_BadTimes : PySem.W.isClsIn K A_BadTimes = true)
    (ic_BadText : PySem.W.isClsIn K A_BadText = true)
    (ic_BadTree : PySem.W.isClsIn K A_BadTree = true)
    (ic_BadWay : PySem.W.isClsIn K A_BadWay = true)
    (ic_TooGreat : PySem.W.isClsIn K A_TooGreat = true) :
    ∃ fd : FuncData, (∀ (s : Shared) (v : Value), BindsTo s fd ⟨[v], []⟩ [("_law_script", v)]) ∧ ∀ base : Heap, K.In base → base.Ns mainGlobals mg → FnOk l.prog w K mg base CX0 46 fa fd ["_law_script"] (spLaw K) := by
  have e := hfa.symm.trans (PySem.W.mg_of X G n21)
  cases e
  have F0 := fun_mk (st := s_is_tree) l0 c0 k0
  have F1 := fun_mk (st := s_asked_tree) l1 c1 k1
  have F2 := fun_mk (st := s_compared) l2 c2 k2
  have F3 := fun_mk (st := s_merged) l3 c3 k3
  have F4 := fun_mk (st := s_copied) l4 c4 k4
  have F5 := fun_mk (st := s_told_of) l5 c5 k5
  have F6 := fun_mk (st := s_text_of) l6 c6 k6
  have F7 := fun_mk (st := s_text) l7 c7 k7
  have F8 := fun_mk (st := s_read) l8 c8 k8
  have F9 := fun_mk (st := s__law_number) l9 c9 k9
  have F10 := fun_mk (st := s__law_tree) l10 c10 k10
  have F11 := fun_mk (st := s__law_copied) l11 c11 k11
  have F12 := fun_mk (st := s__law_more) l12 c12 k12
  have F13 := fun_mk (st := s__law_told) l13 c13 k13
  have F14 := fun_mk (st := s__law_is_tree) l14 c14 k14
  have F15 := fun_mk (st := s__law_own) l15 c15 k15
  have F16 := fun_mk (st := s__law_spoilt) l16 c16 k16
  have F17 := fun_mk (st := s__law_text) l17 c17 k17
  have F18 := fun_mk (st := s__law_read) l18 c18 k18
  have F19 := fun_mk (st := s__law_refused) l19 c19 k19
  have F20 := fun_mk (st := s__law_read_right) l20 c20 k20
  have F21 := fun_mk (st := s_law) l21 c21 k21
  let T : Txt K mg := {
    a_is_tree := a_is_tree, d_is_tree := _, F_is_tree := F0, b_is_tree := (F0.binds (ps := ["thing", "depth", "left"]) fun _ _ _ _ _ _ us hl => match us, hl with | [_, _, _], _ => rfl), m_is_tree := PySem.W.mg_of X G n0, k_is_tree := k0,
    a_asked_tree := a_asked_tree, d_asked_tree := _, F_asked_tree := F1, b_asked_tree := (F1.binds (ps := ["tree"]) fun _ _ _ _ _ _ us hl => match us, hl with | [_], _ => rfl), m_asked_tree := PySem.W.mg_of X G n1, k_asked_tree := k1,
    a_compared := a_compared, d_compared := _, F_compared := F2, b_compared := (F2.binds (ps := ["one", "other"]) fun _ _ _ _ _ _ us hl => match us, hl with | [_, _], _ => rfl), m_compared := PySem.W.mg_of X G n2, k_compared := k2,
    a_merged := a_merged, d_merged := _, F_merged := F3, b_merged := (F3.binds (ps := ["one", "other"]) fun _ _ _ _ _ _ us hl => match us, hl with | [_, _], _ => rfl), m_merged := PySem.W.mg_of X G n3, k_merged := k3,
    a_copied := a_copied, d_copied := _, F_copied := F4, b_copied := (F4.binds (ps := ["tree"]) fun _ _ _ _ _ _ us hl => match us, hl with | [_], _ => rfl), m_copied := PySem.W.mg_of X G n4, k_copied := k4,
    a_told_of := a_told_of, d_told_of := _, F_told_of := F5, b_told_of := (F5.binds (ps := ["tree"]) fun _ _ _ _ _ _ us hl => match us, hl with | [_], _ => rfl), m_told_of := PySem.W.mg_of X G n5, k_told_of := k5,
    a_text_of := a_text_of, d_text_of := _, F_text_of := F6, b_text_of := (F6.binds (ps := ["tree"]) fun _ _ _ _ _ _ us hl => match us, hl with | [_], _ => rfl), m_text_of := PySem.W.mg_of X G n6, k_text_of := k6,
    a_text := a_text, d_text := _, F_text := F7, b_text := (F7.binds (ps := ["tree"]) fun _ _ _ _ _ _ us hl => match us, hl with | [_], _ => rfl), m_text := PySem.W.mg_of X G n7, k_text := k7,
    a_read := a_read, d_read := _, F_read := F8, b_read := (F8.binds (ps := ["text"]) fun _ _ _ _ _ _ us hl => match us, hl with | [_], _ => rfl), m_read := PySem.W.mg_of X G n8, k_read := k8,
    a__law_number := a__law_number, d__law_number := _, F__law_number := F9, b__law_number := (F9.binds (ps := ["_law_cell", "_law_at", "_law_whole"]) fun _ _ _ _ _ _ us hl => match us, hl with | [_, _, _], _ => rfl), m__law_number := PySem.W.mg_of X G n9, k__law_number := k9,
    a__law_tree := a__law_tree, d__law_tree := _, F__law_tree := F10, b__law_tree := (F10.binds (ps := ["_law_script", "_law_most", "_law_by"]) fun _ _ _ _ _ _ us hl => match us, hl with | [_, _, _], _ => rfl), m__law_tree := PySem.W.mg_of X G n10, k__law_tree := k10,
    a__law_copied := a__law_copied, d__law_copied := _, F__law_copied := F11, b__law_copied := (F11.binds (ps := ["_law_tree_here"]) fun _ _ _ _ _ _ us hl => match us, hl with | [_], _ => rfl), m__law_copied := PySem.W.mg_of X G n11, k__law_copied := k11,
    a__law_more := a__law_more, d__law_more := _, F__law_more := F12, b__law_more := (F12.binds (ps := ["_law_one", "_law_other"]) fun _ _ _ _ _ _ us hl => match us, hl with | [_, _], _ => rfl), m__law_more := PySem.W.mg_of X G n12, k__law_more := k12,
    a__law_told := a__law_told, d__law_told := _, F__law_told := F13, b__law_told := (F13.binds (ps := ["_law_tree_here"]) fun _ _ _ _ _ _ us hl => match us, hl with | [_], _ => rfl), m__law_told := PySem.W.mg_of X G n13, k__law_told := k13,
    a__law_is_tree := a__law_is_tree, d__law_is_tree := _, F__law_is_tree := F14, b__law_is_tree := (F14.binds (ps := ["_law_found"]) fun _ _ _ _ _ _ us hl => match us, hl with | [_], _ => rfl), m__law_is_tree := PySem.W.mg_of X G n14, k__law_is_tree := k14,
    a__law_own := a__law_own, d__law_own := _, F__law_own := F15, b__law_own := (F15.binds (ps := ["_law_tree_here", "_law_own_here"]) fun _ _ _ _ _ _ us hl => match us, hl with | [_, _], _ => rfl), m__law_own := PySem.W.mg_of X G n15, k__law_own := k15,
    a__law_spoilt := a__law_spoilt, d__law_spoilt := _, F__law_spoilt := F16, b__law_spoilt := (F16.binds (ps := ["_law_tree_here"]) fun _ _ _ _ _ _ us hl => match us, hl with | [_], _ => rfl), m__law_spoilt := PySem.W.mg_of X G n16, k__law_spoilt := k16,
    a__law_text := a__law_text, d__law_text := _, F__law_text := F17, b__law_text := (F17.binds (ps := ["_law_tree_here"]) fun _ _ _ _ _ _ us hl => match us, hl with | [_], _ => rfl), m__law_text := PySem.W.mg_of X G n17, k__law_text := k17,
    a__law_read := a__law_read, d__law_read := _, F__law_read := F18, b__law_read := (F18.binds (ps := ["_law_signs"]) fun _ _ _ _ _ _ us hl => match us, hl with | [_], _ => rfl), m__law_read := PySem.W.mg_of X G n18, k__law_read := k18,
    a__law_refused := a__law_refused, d__law_refused := _, F__law_refused := F19, b__law_refused := (F19.binds (ps := ["_law_signs"]) fun _ _ _ _ _ _ us hl => match us, hl with | [_], _ => rfl), m__law_refused := PySem.W.mg_of X G n19, k__law_refused := k19,
    a__law_read_right := a__law_read_right, d__law_read_right := _, F__law_read_right := F20, b__law_read_right := (F20.binds (ps := ["_law_signs"]) fun _ _ _ _ _ _ us hl => match us, hl with | [_], _ => rfl), m__law_read_right := PySem.W.mg_of X G n20, k__law_read_right := k20,
    a_law := fa, d_law := _, F_law := F21, b_law := (F21.binds (ps := ["_law_script"]) fun _ _ _ _ _ _ us hl => match us, hl with | [_], _ => rfl), m_law := PySem.W.mg_of X G n21, k_law := k21,
    z_len := PySem.W.mg_none_of X G z_len,
    z_list := PySem.W.mg_none_of X G z_list,
    z_range := PySem.W.mg_none_of X G z_range,
    z_zip := PySem.W.mg_none_of X G z_zip,
    z_enumerate := PySem.W.mg_none_of X G z_enumerate,
    z_min := PySem.W.mg_none_of X G z_min,
    z_sum := PySem.W.mg_none_of X G z_sum,
    z_all := PySem.W.mg_none_of X G z_all,
    z_any := PySem.W.mg_none_of X G z_any,
    z_isinstance := PySem.W.mg_none_of X G z_isinstance,
    z_str := PySem.W.mg_none_of X G z_str,
    t_MOST := t_MOST, c_MOST := PySem.W.mg_of X G c_MOST,
    t_DEEPEST := t_DEEPEST, c_DEEPEST := PySem.W.mg_of X G c_DEEPEST,
    A_HeadError := A_HeadError, g_HeadError := PySem.W.mg_of X G g_HeadError, k_HeadError := kk_HeadError, x_HeadError := x_HeadError, sb_HeadError := sb_HeadError, tt_HeadError := tt_HeadError,
    A_BadTree := A_BadTree, g_BadTree := PySem.W.mg_of X G g_BadTree, k_BadTree := kk_BadTree, x_BadTree := x_BadTree, sb_BadTree := sb_BadTree, tt_BadTree := tt_BadTree,
    A_BadWay := A_BadWay, g_BadWay := PySem.W.mg_of X G g_BadWay, k_BadWay := kk_BadWay, x_BadWay := x_BadWay, sb_BadWay := sb_BadWay, tt_BadWay := tt_BadWay,
    A_BadTimes := A_BadTimes, g_BadTimes := PySem.W.mg_of X G g_BadTimes, k_BadTimes := kk_BadTimes, x_BadTimes := x_BadTimes, sb_BadTimes := sb_BadTimes, tt_BadTimes := tt_BadTimes,
    A_BadNumber := A_BadNumber, g_BadNumber := PySem.W.mg_of X G g_BadNumber, k_BadNumber := kk_BadNumber, x_BadNumber := x_BadNumber, sb_BadNumber := sb_BadNumber, tt_BadNumber := tt_BadNumber,
    A_BadBase := A_BadBase, g_BadBase := PySem.W.mg_of X G g_BadBase, k_BadBase := kk_BadBase, x_BadBase := x_BadBase, sb_BadBase := sb_BadBase, tt_BadBase := tt_BadBase,
    A_BadText := A_BadText, g_BadText := PySem.W.mg_of X G g_BadText, k_BadText := kk_BadText, x_BadText := x_BadText, sb_BadText := sb_BadText, tt_BadText := tt_BadText,
    A_TooGreat := A_TooGreat, g_TooGreat := PySem.W.mg_of X G g_TooGreat, k_TooGreat := kk_TooGreat, x_TooGreat := x_TooGreat, sb_TooGreat := sb_TooGreat, tt_TooGreat := tt_TooGreat,
    hd_HeadError := hd_HeadError,
    ex_BadTree := ⟨e_hg_BadTree, e_hk_BadTree, sb_BadTree, e_hd_BadTree, e_ha_BadTree, e_hn, e_ht, e_hm_BadTree⟩, su_BadTree := su_BadTree,
    kt_BadTree_BadBase := kit_mk ic_BadBase tt_BadBase kt_BadTree_BadBase ks_BadTree,
    kt_BadTree_BadNumber := kit_mk ic_BadNumber tt_BadNumber kt_BadTree_BadNumber ks_BadTree,
    kt_BadTree_BadTimes := kit_mk ic_BadTimes tt_BadTimes kt_BadTree_BadTimes ks_BadTree,
    kt_BadTree_BadText := kit_mk ic_BadText tt_BadText kt_BadTree_BadText ks_BadTree,
    kt_BadTree_BadTree := kit_mk ic_BadTree tt_BadTree kt_BadTree_BadTree ks_BadTree,
    kt_BadTree_BadWay := kit_mk ic_BadWay tt_BadWay kt_BadTree_BadWay ks_BadTree,
    kt_BadTree_TooGreat := kit_mk ic_TooGreat tt_TooGreat kt_BadTree_TooGreat ks_BadTree,
    ex_BadText := ⟨e_hg_BadText, e_hk_BadText, sb_BadText, e_hd_BadText, e_ha_BadText, e_hn, e_ht, e_hm_BadText⟩, su_BadText := su_BadText,
    kt_BadText_BadBase := kit_mk ic_BadBase tt_BadBase kt_BadText_BadBase ks_BadText,
    kt_BadText_BadNumber := kit_mk ic_BadNumber tt_BadNumber kt_BadText_BadNumber ks_BadText,
    kt_BadText_BadTimes := kit_mk ic_BadTimes tt_BadTimes kt_BadText_BadTimes ks_BadText,
    kt_BadText_BadText := kit_mk ic_BadText tt_BadText kt_BadText_BadText ks_BadText,
    kt_BadText_BadTree := kit_mk ic_BadTree tt_BadTree kt_BadText_BadTree ks_BadText,
    kt_BadText_BadWay := kit_mk ic_BadWay tt_BadWay kt_BadText_BadWay ks_BadText,
    kt_BadText_TooGreat := kit_mk ic_TooGreat tt_TooGreat kt_BadText_TooGreat ks_BadText }
  exact ⟨PySem.W.fnOf "law" "law" (defArgs s_law) (defBody s_law) (defScope s_law) .none kV21 dc21 pm21 an21 cd21 ct21, fun s v => .of_eq rfl, fun base _ _ => ok_law T⟩
theorem walk {l : PySem.W.OpenLaw} {q : Program} {loose : List Str} {XP : (Str → Option Value) → Heap → Prop} {YP : World → Heap → Prop} {d : DefRec} {K : Params → PySem.W.Frag} (hn : l.most = some 63) (hdf : d.params.defaults = [])
    (hY : ∀ (w : World) (h : Heap), YP w h → (K w.params).In h)
    (F : ∀ (w : World) (mg : Str → Option Value) (fa : Addr) (h : Heap), (K w.params).In h → h.Ns mainGlobals mg → mg d.name = some (.ref fa) →
      ∃ fd : FuncData, (∀ (s : Shared) (u : Value), BindsTo s fd ⟨[u], []⟩ [("_law_script", u)]) ∧ ∀ base : Heap, (K w.params).In base → base.Ns mainGlobals mg → FnOk l.prog w (K w.params) mg base CX0 46 fa fd ["_law_script"] (spLaw (K w.params))) :
    PySem.W.WalkO q loose XP YP l.row.toRowW d [] (fun f vs => PySem.call f vs) :=
  L2.walk_ofB (n := 63) (k := 46) (x := "_law_script") (CX := fun _ => CX0) (sp := fun w => spLaw (K w.params)) hn (by decide) hdf ⟨rfl, by decide, by decide⟩ hY F (fun _ _ a ns hl hb _ hS => ⟨a, ns, rfl, hS, hl, fun n hn => (Bits.of_bits (hb n hn)).mono (by decide), fun _ => rfl⟩) fun _ _ _ _ _ z => z
end Hg
open PySem PySem.W PyProof.Rows
set_option maxRecDepth 100000 in
set_option maxHeartbeats 0 in
theorem PySem.Challenge.cw_headsgrow_k04_whole_texts_holds : PySem.Challenge.rw_headsgrow_k04_whole_texts.Holds := by
  w_on; o_law; k_head; (case hw => w_witness2)
  k_fill
  refine Hg.walk (l := PySem.Challenge.rw_headsgrow_k04_whole_texts) rfl rfl (fun w h Y => PySem.W.kIn_of Y) ?F
  case F =>
    intro w mg fa h KX G hmg
    refine' Hg.all_mk KX G hmg ?n0 ?l0 ?c0 ?k0 ?n1 ?l1 ?c1 ?k1 ?n2 ?l2 ?c2 ?k2 ?n3 ?l3 ?c3 ?k3 ?n4 ?l4 ?c4 ?k4 ?n5 ?l5 ?c5 ?k5 ?n6 ?l6 ?c6 ?k6 ?n7 ?l7 ?c7 ?k7 ?n8 ?l8 ?c8 ?k8 ?n9 ?l9 ?c9 ?k9 ?n10 ?l10 ?c10 ?k10 ?n11 ?l11 ?c11 ?k11 ?n12 ?l12 ?c12 ?k12 ?n13 ?l13 ?c13 ?k13 ?n14 ?l14 ?c14 ?k14 ?n15 ?l15 ?c15 ?k15 ?n16 ?l16 ?c16 ?k16 ?n17 ?l17 ?c17 ?k17 ?n18 ?l18 ?c18 ?k18 ?n19 ?l19 ?c19 ?k19 ?n20 ?l20 ?c20 ?k20 ?n21 ?l21 ?c21 ?k21 ?z_len ?z_list ?z_range ?z_zip ?z_enumerate ?z_min ?z_sum ?z_all ?z_any ?z_isinstance ?z_str ?c_MOST ?c_DEEPEST ?g_HeadError ?kk_HeadError ?x_HeadError ?sb_HeadError ?tt_HeadError ?g_BadTree ?kk_BadTree ?x_BadTree ?sb_BadTree ?tt_BadTree ?g_BadWay ?kk_BadWay ?x_BadWay ?sb_BadWay ?tt_BadWay ?g_BadTimes ?kk_BadTimes ?x_BadTimes ?sb_BadTimes ?tt_BadTimes ?g_BadNumber ?kk_BadNumber ?x_BadNumber ?sb_BadNumber ?tt_BadNumber ?g_BadBase ?kk_BadBase ?x_BadBase ?sb_BadBase ?tt_BadBase ?g_BadText ?kk_BadText ?x_BadText ?sb_BadText ?tt_BadText ?g_TooGreat ?kk_TooGreat ?x_TooGreat ?sb_TooGreat ?tt_TooGreat ?hd_HeadError ?e_hn ?e_ht ?e_hg_BadTree ?e_hk_BadTree ?e_hd_BadTree ?e_ha_BadTree ?e_hm_BadTree ?su_BadTree ?kt_BadTree_BadBase ?kt_BadTree_BadNumber ?kt_BadTree_BadTimes ?kt_BadTree_BadText ?kt_BadTree_BadTree ?kt_BadTree_BadWay ?kt_BadTree_TooGreat ?ks_BadTree ?e_hg_BadText ?e_hk_BadText ?e_hd_BadText ?e_ha_BadText ?e_hm_BadText ?su_BadText ?kt_BadText_BadBase ?kt_BadText_BadNumber ?kt_BadText_BadTimes ?kt_BadText_BadText ?kt_BadText_BadTree ?kt_BadText_BadWay ?kt_BadText_TooGreat ?ks_BadText ?ic_BadBase ?ic_BadNumber ?ic_BadTimes ?ic_BadText ?ic_BadTree ?ic_BadWay ?ic_TooGreat
    (case n0 => k_is)
    (case l0 => k_is)
    (case c0 => k_is)
    (case k0 => k_is)
    (case n1 => k_is)
    (case l1 => k_is)
    (case c1 => k_is)
    (case k1 => k_is)
    (case n2 => k_is)
    (case l2 => k_is)
    (case c2 => k_is)
    (case k2 => k_is)
    (case n3 => k_is)
    (case l3 => k_is)
    (case c3 => k_is)
    (case k3 => k_is)
    (case n4 => k_is)
    (case l4 => k_is)
    (case c4 => k_is)
    (case k4 => k_is)
    (case n5 => k_is)
    (case l5 => k_is)
    (case c5 => k_is)
    (case k5 => k_is)
    (case n6 => k_is)
    (case l6 => k_is)
    (case c6 => k_is)
    (case k6 => k_is)
    (case n7 => k_is)
    (case l7 => k_is)
    (case c7 => k_is)
    (case k7 => k_is)
    (case n8 => k_is)
    (case l8 => k_is)
    (case c8 => k_is)
    (case k8 => k_is)
    (case n9 => k_is)
    (case l9 => k_is)
    (case c9 => k_is)
    (case k9 => k_is)
    (case n10 => k_is)
    (case l10 => k_is)
    (case c10 => k_is)
    (case k10 => k_is)
    (case n11 => k_is)
    (case l11 => k_is)
    (case c11 => k_is)
    (case k11 => k_is)
    (case n12 => k_is)
    (case l12 => k_is)
    (case c12 => k_is)
    (case k12 => k_is)
    (case n13 => k_is)
    (case l13 => k_is)
    (case c13 => k_is)
    (case k13 => k_is)
    (case n14 => k_is)
    (case l14 => k_is)
    (case c14 => k_is)
    (case k14 => k_is)
    (case n15 => k_is)
    (case l15 => k_is)
    (case c15 => k_is)
    (case k15 => k_is)
    (case n16 => k_is)
    (case l16 => k_is)
    (case c16 => k_is)
    (case k16 => k_is)
    (case n17 => k_is)
    (case l17 => k_is)
    (case c17 => k_is)
    (case k17 => k_is)
    (case n18 => k_is)
    (case l18 => k_is)
    (case c18 => k_is)
    (case k18 => k_is)
    (case n19 => k_is)
    (case l19 => k_is)
    (case c19 => k_is)
    (case k19 => k_is)
    (case n20 => k_is)
    (case l20 => k_is)
    (case c20 => k_is)
    (case k20 => k_is)
    (case n21 => k_is)
    (case l21 => k_is)
    (case c21 => k_is)
    (case k21 => k_is)
    (case z_len => k_is)
    (case z_list => k_is)
    (case z_range => k_is)
    (case z_zip => k_is)
    (case z_enumerate => k_is)
    (case z_min => k_is)
    (case z_sum => k_is)
    (case z_all => k_is)
    (case z_any => k_is)
    (case z_isinstance => k_is)
    (case z_str => k_is)
    (case c_MOST => k_is)
    (case c_DEEPEST => k_is)
    (case g_HeadError => k_is)
    (case kk_HeadError => k_is)
    (case x_HeadError => k_exc)
    (case sb_HeadError => k_is)
    (case tt_HeadError => k_is)
    (case g_BadTree => k_is)
    (case kk_BadTree => k_is)
    (case x_BadTree => k_exc)
    (case sb_BadTree => k_is)
    (case tt_BadTree => k_is)
    (case g_BadWay => k_is)
    (case kk_BadWay => k_is)
    (case x_BadWay => k_exc)
    (case sb_BadWay => k_is)
    (case tt_BadWay => k_is)
    (case g_BadTimes => k_is)
    (case kk_BadTimes => k_is)
    (case x_BadTimes => k_exc)
    (case sb_BadTimes => k_is)
    (case tt_BadTimes => k_is)
    (case g_BadNumber => k_is)
    (case kk_BadNumber => k_is)
    (case x_BadNumber => k_exc)
    (case sb_BadNumber => k_is)
    (case tt_BadNumber => k_is)
    (case g_BadBase => k_is)
    (case kk_BadBase => k_is)
    (case x_BadBase => k_exc)
    (case sb_BadBase => k_is)
    (case tt_BadBase => k_is)
    (case g_BadText => k_is)
    (case kk_BadText => k_is)
    (case x_BadText => k_exc)
    (case sb_BadText => k_is)
    (case tt_BadText => k_is)
    (case g_TooGreat => k_is)
    (case kk_TooGreat => k_is)
    (case x_TooGreat => k_exc)
    (case sb_TooGreat => k_is)
    (case tt_TooGreat => k_is)
    (case hd_HeadError => k_is)
    (case e_hn => k_is)
    (case e_ht => k_is)
    (case e_hg_BadTree => k_is)
    (case e_hk_BadTree => k_is)
    (case e_hd_BadTree => k_is)
    (case e_ha_BadTree => k_is)
    (case e_hm_BadTree => k_is)
    (case su_BadTree => k_is)
    (case kt_BadTree_BadBase => k_is)
    (case kt_BadTree_BadNumber => k_is)
    (case kt_BadTree_BadTimes => k_is)
    (case kt_BadTree_BadText => k_is)
    (case kt_BadTree_BadTree => k_is)
    (case kt_BadTree_BadWay => k_is)
    (case kt_BadTree_TooGreat => k_is)
    (case ks_BadTree => k_is)
    (case e_hg_BadText => k_is)
    (case e_hk_BadText => k_is)
    (case e_hd_BadText => k_is)
    (case e_ha_BadText => k_is)
    (case e_hm_BadText => k_is)
    (case su_BadText => k_is)
    (case kt_BadText_BadBase => k_is)
    (case kt_BadText_BadNumber => k_is)
    (case kt_BadText_BadTimes => k_is)
    (case kt_BadText_BadText => k_is)
    (case kt_BadText_BadTree => k_is)
    (case kt_BadText_BadWay => k_is)
    (case kt_BadText_TooGreat => k_is)
    (case ks_BadText => k_is)
    (case ic_BadBase => k_is)
    (case ic_BadNumber => k_is)
    (case ic_BadTimes => k_is)
    (case ic_BadText => k_is)
    (case ic_BadTree => k_is)
    (case ic_BadWay => k_is)
    (case ic_TooGreat => k_is)
#print axioms PySem.Challenge.cw_headsgrow_k04_whole_texts_holds
