import PyProof.Rows.All
import Wide.All
import OpenK.AllK
import Wide.FinOn
import HandS.ForMost
import HandS.Exc
import HandS.TryOnly
import HandS.ExcOwn
import HandS.WordsExc
import HandS.IsInst
import HandS.ExcIs
import HandS.Deep
import HandS.Style
import HandS.More
import HandS.Walk
import HandS.Wide
import HandS.StrMore
import HandS.EndBits
import HandS.ExcCtx
import HandS.Hot
import HandS.HotCalls
import HandS.EndTab
import HandS.Flt
import PySem.Challenge.RW_headsgrow_k03_whole_bases
set_option Elab.async false
set_option linter.all false
set_option maxRecDepth 100000
set_option maxHeartbeats 4000000
/-! Plain mathematics: trees, their order, told trees. -/
namespace Hg

inductive Tt where
  | mk (bs : List Tt)

def Tt.bs : Tt → List Tt
  | .mk l => l

theorem Tt.ind {P : Tt → Prop} (h : ∀ l, (∀ x, x ∈ l → P x) → P (.mk l)) : ∀ t, P t
  | .mk l => h l fun x hx => Tt.ind h x
termination_by t => sizeOf t
decreasing_by
  have := List.sizeOf_lt_of_mem hx
  simp only [Tt.mk.sizeOf_spec]
  omega

mutual
def cmp : Tt → Tt → Int
  | .mk a, .mk b => cmpL a b
def cmpL : List Tt → List Tt → Int
  | [], b => - (b.length : Int)
  | x :: a, [] => ((x :: a).length : Int)
  | x :: a, y :: b => if cmp x y ≠ 0 then cmp x y else cmpL a b
end

mutual
def knots : Tt → Nat
  | .mk l => 1 + knotsL l
def knotsL : List Tt → Nat
  | [] => 0
  | x :: l => knots x + knotsL l
end
mutual
def depth : Tt → Nat
  | .mk l => depthL l
def depthL : List Tt → Nat
  | [] => 0
  | x :: l => max (depth x + 1) (depthL l)
end

theorem cmp_mk (a b : List Tt) : cmp (.mk a) (.mk b) = cmpL a b := by rw [cmp]
theorem cmpL_nil_nil : cmpL [] [] = 0 := by simp [cmpL]
theorem cmpL_nil (b : List Tt) : cmpL [] b = - (b.length : Int) := by rw [cmpL]
theorem cmpL_cons_nil (x : Tt) (a : List Tt) : cmpL (x :: a) [] = ((x :: a).length : Int) := by rw [cmpL]
theorem cmpL_cons (x y : Tt) (a b : List Tt) : cmpL (x :: a) (y :: b) = if cmp x y ≠ 0 then cmp x y else cmpL a b := by rw [cmpL]
theorem cmpL_nil_r : ∀ a : List Tt, cmpL a [] = (a.length : Int)
  | [] => by simp [cmpL]
  | x :: a => cmpL_cons_nil x a

theorem cmpL_self_of : ∀ (l : List Tt), (∀ x, x ∈ l → cmp x x = 0) → cmpL l l = 0
  | [], _ => cmpL_nil_nil
  | x :: l, h => by
    rw [cmpL_cons, h x List.mem_cons_self, if_neg (by simp)]
    exact cmpL_self_of l fun y hy => h y (List.mem_cons_of_mem _ hy)
theorem cmp_self (t : Tt) : cmp t t = 0 := by
  induction t using Tt.ind with
  | h l ih => rw [cmp_mk]; exact cmpL_self_of l ih

theorem cmpL_anti_of : ∀ (a b : List Tt), (∀ x, x ∈ a → ∀ y, cmp x y = - cmp y x) → cmpL a b = - cmpL b a
  | [], b, _ => by rw [cmpL_nil, cmpL_nil_r]
  | x :: a, [], _ => by rw [cmpL_nil_r, cmpL_nil]; omega
  | x :: a, y :: b, h => by
    have e := h x List.mem_cons_self y
    have ih := cmpL_anti_of a b fun z hz => h z (List.mem_cons_of_mem _ hz)
    rw [cmpL_cons, cmpL_cons]
    by_cases c : cmp x y = 0
    · rw [if_neg (by omega), if_neg (by omega)]; exact ih
    · rw [if_pos c, if_pos (by omega)]; exact e
theorem cmp_anti (x y : Tt) : cmp x y = - cmp y x := by
  induction x using Tt.ind generalizing y with
  | h l ih =>
    cases y with
    | mk b => rw [cmp_mk, cmp_mk]; exact cmpL_anti_of l b fun x hx y => ih x hx y

theorem cmpL_eq_of : ∀ (a b : List Tt), (∀ x, x ∈ a → ∀ y, cmp x y = 0 → x = y) → cmpL a b = 0 → a = b
  | [], [], _, _ => rfl
  | [], y :: b, _, e => by rw [cmpL_nil, List.length_cons] at e; omega
  | x :: a, [], _, e => by rw [cmpL_nil_r, List.length_cons] at e; omega
  | x :: a, y :: b, h, e => by
    rw [cmpL_cons] at e
    by_cases c : cmp x y = 0
    · rw [if_neg (by simp [c])] at e
      rw [h x List.mem_cons_self y c, cmpL_eq_of a b (fun z hz => h z (List.mem_cons_of_mem _ hz)) e]
    · rw [if_pos c] at e; exact absurd e c
theorem cmp_eq {x y : Tt} (e : cmp x y = 0) : x = y := by
  induction x using Tt.ind generalizing y with
  | h l ih =>
    cases y with
    | mk b =>
      rw [cmp_mk] at e
      rw [cmpL_eq_of l b (fun x hx y e => ih x hx e) e]
theorem cmp_zero {x y : Tt} : cmp x y = 0 ↔ x = y := ⟨cmp_eq, fun e => by rw [e]; exact cmp_self y⟩

/-- strictly less, transitively -/
theorem cmpL_trans_of : ∀ (a b c : List Tt), (∀ x, x ∈ a → ∀ y z, cmp x y < 0 → cmp y z < 0 → cmp x z < 0) → cmpL a b < 0 → cmpL b c < 0 → cmpL a c < 0
  | a, [], c, _, h1, _ => by rw [cmpL_nil_r] at h1; omega
  | a, y :: b, [], _, _, h2 => by rw [cmpL_nil_r] at h2; omega
  | [], y :: b, z :: c, _, _, _ => by rw [cmpL_nil, List.length_cons]; omega
  | x :: a, y :: b, z :: c, h, h1, h2 => by
    rw [cmpL_cons] at h1 h2 ⊢
    by_cases c1 : cmp x y = 0
    · have e := cmp_eq c1
      subst e
      rw [if_neg (by simp [c1])] at h1
      by_cases c2 : cmp x z = 0
      · rw [if_neg (by simp [c2])] at h2 ⊢
        exact cmpL_trans_of a b c (fun w hw => h w (List.mem_cons_of_mem _ hw)) h1 h2
      · rw [if_pos c2] at h2 ⊢; exact h2
    · rw [if_pos c1] at h1
      by_cases c2 : cmp y z = 0
      · have e := cmp_eq c2
        subst e
        rw [if_pos c1]; exact h1
      · rw [if_pos c2] at h2
        have := h x List.mem_cons_self y z h1 h2
        rw [if_pos (by omega)]; exact this
theorem cmp_lt_trans {x y z : Tt} (h1 : cmp x y < 0) (h2 : cmp y z < 0) : cmp x z < 0 := by
  induction x using Tt.ind generalizing y z with
  | h l ih =>
    cases y with
    | mk b =>
      cases z with
      | mk c =>
        rw [cmp_mk] at *
        exact cmpL_trans_of l b c (fun x hx y z a b => ih x hx a b) h1 h2
/-- x is worth at least y -/
def ge (x y : Tt) : Prop := 0 ≤ cmp x y
theorem ge_refl (x : Tt) : ge x x := by unfold ge; rw [cmp_self]; exact Int.le_refl 0
theorem ge_of_lt {x y : Tt} (h : cmp y x < 0) : ge x y := by unfold ge; rw [cmp_anti]; omega
theorem ge_total {x y : Tt} (h : ¬ ge x y) : cmp x y < 0 := by unfold ge at h; omega
theorem ge_cases {x y : Tt} (h : ge x y) : x = y ∨ cmp y x < 0 := by
  unfold ge at h
  by_cases c : cmp x y = 0
  · exact .inl (cmp_eq c)
  · right; rw [cmp_anti]; omega
theorem ge_trans {x y z : Tt} (h1 : ge x y) (h2 : ge y z) : ge x z := by
  rcases ge_cases h1 with e | l1
  · rw [e]; exact h2
  · rcases ge_cases h2 with e | l2
    · rw [← e]; exact h1
    · exact ge_of_lt (cmp_lt_trans l2 l1)
theorem ge_anti {x y : Tt} (h1 : ge x y) (h2 : ge y x) : x = y := by
  unfold ge at *
  rw [cmp_anti] at h2
  exact cmp_eq (by omega)
instance (x y : Tt) : Decidable (ge x y) := inferInstanceAs (Decidable (0 ≤ cmp x y))

/-! ### insertion, told -/
def ins (x : Tt) : List Tt → List Tt
  | [] => [x]
  | y :: l => if 0 ≤ cmp y x then y :: ins x l else x :: y :: l
mutual
def told : Tt → Tt
  | .mk l => .mk (toldL [] l)
def toldL (acc : List Tt) : List Tt → List Tt
  | [] => acc
  | b :: l => toldL (ins (told b) acc) l
end
theorem told_mk (l : List Tt) : told (.mk l) = .mk (toldL [] l) := by rw [told]
theorem toldL_nil (acc : List Tt) : toldL acc [] = acc := by rw [toldL]
theorem toldL_cons (acc : List Tt) (b : Tt) (l : List Tt) : toldL acc (b :: l) = toldL (ins (told b) acc) l := by rw [toldL]
theorem toldL_eq : ∀ (l acc : List Tt), toldL acc l = (l.map told).foldl (fun a x => ins x a) acc
  | [], acc => by rw [toldL_nil]; rfl
  | b :: l, acc => by rw [toldL_cons, toldL_eq l]; rfl
theorem toldL_append : ∀ (l m acc : List Tt), toldL acc (l ++ m) = toldL (toldL acc l) m
  | [], m, acc => by rw [toldL_nil]; rfl
  | b :: l, m, acc => by rw [List.cons_append, toldL_cons, toldL_cons, toldL_append l m]

/-- in falling turn -/
def Sd (l : List Tt) : Prop := l.Pairwise ge
theorem ins_perm (x : Tt) : ∀ l, (ins x l).Perm (x :: l)
  | [] => List.Perm.refl _
  | y :: l => by
    unfold ins
    split
    · exact ((ins_perm x l).cons y).trans (List.Perm.swap x y l)
    · exact List.Perm.refl _
theorem ins_sd (x : Tt) : ∀ l, Sd l → Sd (ins x l)
  | [], _ => by unfold Sd ins; exact List.pairwise_singleton _ _
  | y :: l, h => by
    obtain ⟨h1, h2⟩ := List.pairwise_cons.mp h
    unfold ins
    split
    · rename_i c
      refine List.pairwise_cons.mpr ⟨fun z hz => ?_, ins_sd x l h2⟩
      rcases List.mem_cons.mp ((ins_perm x l).mem_iff.mp hz) with e | hz
      · rw [e]; exact c
      · exact h1 z hz
    · rename_i c
      have g : ge x y := ge_of_lt (by omega)
      refine List.pairwise_cons.mpr ⟨fun z hz => ?_, h⟩
      rcases List.mem_cons.mp hz with e | hz
      · rw [e]; exact g
      · exact ge_trans g (h1 z hz)
theorem foldins_perm : ∀ (l acc : List Tt), (l.foldl (fun a x => ins x a) acc).Perm (acc ++ l)
  | [], acc => by simp
  | x :: l, acc => by
    rw [List.foldl_cons]
    refine (foldins_perm l _).trans ?_
    refine ((ins_perm x acc).append_right l).trans ?_
    exact (List.perm_middle (l₁ := acc) (a := x) (l₂ := l)).symm
theorem foldins_sd : ∀ (l acc : List Tt), Sd acc → Sd (l.foldl (fun a x => ins x a) acc)
  | [], _, h => h
  | x :: l, acc, h => by rw [List.foldl_cons]; exact foldins_sd l _ (ins_sd x acc h)
theorem toldL_perm (l acc : List Tt) : (toldL acc l).Perm (acc ++ l.map told) := by rw [toldL_eq]; exact foldins_perm _ _
theorem toldL_sd (l acc : List Tt) (h : Sd acc) : Sd (toldL acc l) := by rw [toldL_eq]; exact foldins_sd _ _ h
/-- two lists in falling turn of the same things are one -/
theorem sd_unique : ∀ (l m : List Tt), Sd l → Sd m → l.Perm m → l = m
  | [], m, _, _, p => (List.Perm.nil_eq p)
  | x :: l, [], _, _, p => absurd p.symm.nil_eq (by simp)
  | x :: l, y :: m, hl, hm, p => by
    obtain ⟨l1, l2⟩ := List.pairwise_cons.mp hl
    obtain ⟨m1, m2⟩ := List.pairwise_cons.mp hm
    have e : x = y := by
      have hx : x ∈ y :: m := p.mem_iff.mp List.mem_cons_self
      have hy : y ∈ x :: l := p.mem_iff.mpr List.mem_cons_self
      rcases List.mem_cons.mp hx with e | hx
      · exact e
      · rcases List.mem_cons.mp hy with e | hy
        · exact e.symm
        · exact ge_anti (l1 y hy) (m1 x hx)
    subst e
    rw [sd_unique l m l2 m2 (List.Perm.cons_inv p)]

/-- two told lists joined, as the program does it -/
def merge : List Tt → List Tt → List Tt
  | [], m => m
  | x :: l, [] => x :: l
  | x :: l, y :: m => if 0 ≤ cmp x y then x :: merge l (y :: m) else y :: merge (x :: l) m
termination_by l m => l.length + m.length
theorem merge_nil_r (l : List Tt) : merge l [] = l := by cases l <;> simp [merge]
theorem merge_perm (l m : List Tt) : (merge l m).Perm (l ++ m) := by
  fun_induction merge l m with
  | case1 m => exact List.Perm.refl _
  | case2 x l => simp
  | case3 x l y m h ih => exact ih.cons x
  | case4 x l y m h ih =>
    refine (ih.cons y).trans ?_
    exact (List.perm_middle (l₁ := x :: l) (a := y) (l₂ := m)).symm
theorem merge_sd (l m : List Tt) (hl : Sd l) (hm : Sd m) : Sd (merge l m) := by
  fun_induction merge l m with
  | case1 m => exact hm
  | case2 x l => exact hl
  | case3 x l y m h ih =>
    obtain ⟨l1, l2⟩ := List.pairwise_cons.mp hl
    refine List.pairwise_cons.mpr ⟨fun z hz => ?_, ih l2 hm⟩
    rcases List.mem_append.mp ((merge_perm l (y :: m)).mem_iff.mp hz) with hz | hz
    · exact l1 z hz
    · rcases List.mem_cons.mp hz with e | hz
      · rw [e]; exact h
      · exact ge_trans h ((List.pairwise_cons.mp hm).1 z hz)
  | case4 x l y m h ih =>
    obtain ⟨m1, m2⟩ := List.pairwise_cons.mp hm
    have g : ge y x := ge_of_lt (by omega)
    refine List.pairwise_cons.mpr ⟨fun z hz => ?_, ih hl m2⟩
    rcases List.mem_append.mp ((merge_perm (x :: l) m).mem_iff.mp hz) with hz | hz
    · rcases List.mem_cons.mp hz with e | hz
      · rw [e]; exact g
      · exact ge_trans g ((List.pairwise_cons.mp hl).1 z hz)
    · exact m1 z hz
theorem merge_one (x : Tt) (l : List Tt) : merge l [x] = ins x l := by
  induction l with
  | nil => simp [merge, ins]
  | cons y l ih =>
    unfold merge ins
    split
    · rw [ih]
    · rw [merge_nil_r]
/-- together -/
theorem merge_told (l m : List Tt) : merge (toldL [] l) (toldL [] m) = toldL [] (l ++ m) := by
  have nl : Sd [] := List.Pairwise.nil
  refine sd_unique _ _ (merge_sd _ _ (toldL_sd l [] nl) (toldL_sd m [] nl)) (toldL_sd _ [] nl) ?_
  refine (merge_perm _ _).trans ?_
  refine ((toldL_perm l []).append (toldL_perm m [])).trans ?_
  refine List.Perm.trans ?_ (toldL_perm (l ++ m) []).symm
  simp
end Hg
/-! Trees in the heap: read (TreeAt), owned (Own), made anew (New), grown (Grow). -/
namespace Hg
open PySem L2

mutual
def TreeAt (H : Hp) : V → Tt → Prop
  | v, .mk bs => ∃ a vs, v = .ref a ∧ H a = some (.lst vs) ∧ TreesAt H vs bs
def TreesAt (H : Hp) : List V → List Tt → Prop
  | vs, [] => vs = []
  | vs, b :: bs => ∃ v vs', vs = v :: vs' ∧ TreeAt H v b ∧ TreesAt H vs' bs
end
mutual
def Own (H : Hp) : V → Tt → List Addr → Prop
  | v, .mk bs, as => ∃ a vs as', v = .ref a ∧ as = a :: as' ∧ H a = some (.lst vs) ∧ Owns H vs bs as'
def Owns (H : Hp) : List V → List Tt → List Addr → Prop
  | vs, [], as => vs = [] ∧ as = []
  | vs, b :: bs, as => ∃ v vs' a1 a2, vs = v :: vs' ∧ as = a1 ++ a2 ∧ Own H v b a1 ∧ Owns H vs' bs a2
end
theorem treeAt_mk {H : Hp} {v : V} {bs : List Tt} : TreeAt H v (.mk bs) = ∃ a vs, v = .ref a ∧ H a = some (.lst vs) ∧ TreesAt H vs bs := by rw [TreeAt]
theorem treesAt_nil {H : Hp} {vs : List V} : TreesAt H vs [] = (vs = []) := by rw [TreesAt]
theorem treesAt_cons {H : Hp} {vs : List V} {b : Tt} {bs : List Tt} : TreesAt H vs (b :: bs) = ∃ v vs', vs = v :: vs' ∧ TreeAt H v b ∧ TreesAt H vs' bs := by rw [TreesAt]
theorem own_mk {H : Hp} {v : V} {bs : List Tt} {as : List Addr} : Own H v (.mk bs) as = ∃ a vs as', v = .ref a ∧ as = a :: as' ∧ H a = some (.lst vs) ∧ Owns H vs bs as' := by rw [Own]
theorem owns_nil {H : Hp} {vs : List V} {as : List Addr} : Owns H vs [] as = (vs = [] ∧ as = []) := by rw [Owns]
theorem owns_cons {H : Hp} {vs : List V} {b : Tt} {bs : List Tt} {as : List Addr} : Owns H vs (b :: bs) as = ∃ v vs' a1 a2, vs = v :: vs' ∧ as = a1 ++ a2 ∧ Own H v b a1 ∧ Owns H vs' bs a2 := by rw [Owns]

mutual
theorem TreeAt.same {H H' : Hp} (s : Same H H') : ∀ {v : V} (t : Tt), TreeAt H v t → TreeAt H' v t
  | v, .mk bs, h => by
    rw [treeAt_mk] at h ⊢
    obtain ⟨a, vs, e, h1, h2⟩ := h
    exact ⟨a, vs, e, s _ _ h1, TreesAt.same s bs h2⟩
theorem TreesAt.same {H H' : Hp} (s : Same H H') : ∀ {vs : List V} (ts : List Tt), TreesAt H vs ts → TreesAt H' vs ts
  | vs, [], h => by rw [treesAt_nil] at h ⊢; exact h
  | vs, b :: bs, h => by
    rw [treesAt_cons] at h ⊢
    obtain ⟨v, vs', e, h1, h2⟩ := h
    exact ⟨v, vs', e, TreeAt.same s b h1, TreesAt.same s bs h2⟩
end
mutual
theorem Own.at_ {H : Hp} : ∀ {v : V} (t : Tt) {as : List Addr}, Own H v t as → TreeAt H v t
  | v, .mk bs, as, h => by
    rw [own_mk] at h; rw [treeAt_mk]
    obtain ⟨a, vs, as', e, _, h1, h2⟩ := h
    exact ⟨a, vs, e, h1, Owns.at_ bs h2⟩
theorem Owns.at_ {H : Hp} : ∀ {vs : List V} (ts : List Tt) {as : List Addr}, Owns H vs ts as → TreesAt H vs ts
  | vs, [], as, h => by rw [owns_nil] at h; rw [treesAt_nil]; exact h.1
  | vs, b :: bs, as, h => by
    rw [owns_cons] at h; rw [treesAt_cons]
    obtain ⟨v, vs', a1, a2, e, _, h1, h2⟩ := h
    exact ⟨v, vs', e, Own.at_ b h1, Owns.at_ bs h2⟩
end
mutual
/-- what it owns is tracked; kept where its own places are kept -/
theorem Own.frame {H H' : Hp} : ∀ {v : V} (t : Tt) {as : List Addr}, Own H v t as → (∀ a, a ∈ as → ∀ o, H a = some o → H' a = some o) → Own H' v t as
  | v, .mk bs, as, h, k => by
    rw [own_mk] at h ⊢
    obtain ⟨a, vs, as', e, ea, h1, h2⟩ := h
    subst ea
    exact ⟨a, vs, as', e, rfl, k a List.mem_cons_self _ h1, Owns.frame bs h2 fun b hb => k b (List.mem_cons_of_mem _ hb)⟩
theorem Owns.frame {H H' : Hp} : ∀ {vs : List V} (ts : List Tt) {as : List Addr}, Owns H vs ts as → (∀ a, a ∈ as → ∀ o, H a = some o → H' a = some o) → Owns H' vs ts as
  | vs, [], as, h, _ => by rw [owns_nil] at h ⊢; exact h
  | vs, b :: bs, as, h, k => by
    rw [owns_cons] at h ⊢
    obtain ⟨v, vs', a1, a2, e, ea, h1, h2⟩ := h
    subst ea
    exact ⟨v, vs', a1, a2, e, rfl, Own.frame b h1 fun a ha => k a (List.mem_append_left _ ha), Owns.frame bs h2 fun a ha => k a (List.mem_append_right _ ha)⟩
end
mutual
theorem Own.tracked {H : Hp} : ∀ {v : V} (t : Tt) {as : List Addr}, Own H v t as → ∀ a, a ∈ as → ∃ xs, H a = some (.lst xs)
  | v, .mk bs, as, h, a, ha => by
    rw [own_mk] at h
    obtain ⟨a', vs, as', e, ea, h1, h2⟩ := h
    subst ea
    rcases List.mem_cons.mp ha with e | ha
    · rw [e]; exact ⟨vs, h1⟩
    · exact Owns.tracked bs h2 a ha
theorem Owns.tracked {H : Hp} : ∀ {vs : List V} (ts : List Tt) {as : List Addr}, Owns H vs ts as → ∀ a, a ∈ as → ∃ xs, H a = some (.lst xs)
  | vs, [], as, h, a, ha => by rw [owns_nil] at h; rw [h.2] at ha; cases ha
  | vs, b :: bs, as, h, a, ha => by
    rw [owns_cons] at h
    obtain ⟨v, vs', a1, a2, e, ea, h1, h2⟩ := h
    subst ea
    rcases List.mem_append.mp ha with ha | ha
    · exact Own.tracked b h1 a ha
    · exact Owns.tracked bs h2 a ha
end
theorem TreesAt.len {H : Hp} : ∀ {vs : List V} {ts : List Tt}, TreesAt H vs ts → vs.length = ts.length
  | vs, [], h => by rw [treesAt_nil] at h; rw [h]; rfl
  | vs, b :: bs, h => by
    rw [treesAt_cons] at h
    obtain ⟨v, vs', e, _, h2⟩ := h
    rw [e, List.length_cons, List.length_cons, TreesAt.len h2]
theorem TreesAt.get {H : Hp} : ∀ {vs : List V} {ts : List Tt} {i : Nat} {v : V}, TreesAt H vs ts → vs[i]? = some v → ∃ t, ts[i]? = some t ∧ TreeAt H v t
  | vs, [], i, v, h, e => by rw [treesAt_nil] at h; rw [h] at e; cases e
  | vs, b :: bs, i, v, h, e => by
    rw [treesAt_cons] at h
    obtain ⟨w, vs', ev, h1, h2⟩ := h
    subst ev
    cases i with
    | zero =>
      have e' : w = v := Option.some.inj (by simpa using e)
      exact ⟨b, rfl, e' ▸ h1⟩
    | succ i =>
      obtain ⟨t, e1, h3⟩ := TreesAt.get h2 (i := i) (v := v) (by simpa using e)
      exact ⟨t, by simpa using e1, h3⟩
theorem TreesAt.get' {H : Hp} {vs : List V} {ts : List Tt} {i : Nat} {t : Tt} (h : TreesAt H vs ts) (e : ts[i]? = some t) : ∃ v, vs[i]? = some v ∧ TreeAt H v t := by
  have hl := h.len
  obtain ⟨hi, _⟩ := List.getElem?_eq_some_iff.mp e
  have hv : i < vs.length := by omega
  obtain ⟨t', e', h'⟩ := h.get (List.getElem?_eq_getElem hv)
  rw [e] at e'
  cases e'
  exact ⟨_, List.getElem?_eq_getElem hv, h'⟩
theorem TreesAt.append {H : Hp} : ∀ {vs ws : List V} {ts us : List Tt}, TreesAt H vs ts → TreesAt H ws us → TreesAt H (vs ++ ws) (ts ++ us)
  | vs, ws, [], us, h, k => by rw [treesAt_nil] at h; rw [h]; exact k
  | vs, ws, b :: bs, us, h, k => by
    rw [treesAt_cons] at h
    obtain ⟨w, vs', ev, h1, h2⟩ := h
    subst ev
    rw [List.cons_append, List.cons_append, treesAt_cons]
    exact ⟨w, _, rfl, h1, TreesAt.append h2 k⟩
theorem TreesAt.one {H : Hp} {v : V} {t : Tt} (h : TreeAt H v t) : TreesAt H [v] [t] := by
  rw [treesAt_cons]; exact ⟨v, [], rfl, h, by rw [treesAt_nil]⟩
theorem Owns.append {H : Hp} : ∀ {vs ws : List V} {ts us : List Tt} {as bs : List Addr}, Owns H vs ts as → Owns H ws us bs → Owns H (vs ++ ws) (ts ++ us) (as ++ bs)
  | vs, ws, [], us, as, bs, h, k => by rw [owns_nil] at h; rw [h.1, h.2]; exact k
  | vs, ws, b :: ts, us, as, bs, h, k => by
    rw [owns_cons] at h
    obtain ⟨w, vs', a1, a2, ev, ea, h1, h2⟩ := h
    subst ev ea
    rw [List.cons_append, List.cons_append, owns_cons]
    exact ⟨w, _, a1, a2 ++ bs, rfl, List.append_assoc _ _ _, h1, Owns.append h2 k⟩
theorem Owns.one {H : Hp} {v : V} {t : Tt} {as : List Addr} (h : Own H v t as) : Owns H [v] [t] as := by
  rw [owns_cons]; exact ⟨v, [], as, [], rfl, by simp, h, by rw [owns_nil]; exact ⟨rfl, rfl⟩⟩
theorem Owns.split {H : Hp} : ∀ {ts us : List Tt} {vs : List V} {as : List Addr}, Owns H vs (ts ++ us) as → ∃ v1 v2 a1 a2, vs = v1 ++ v2 ∧ as = a1 ++ a2 ∧ Owns H v1 ts a1 ∧ Owns H v2 us a2
  | [], us, vs, as, h => ⟨[], vs, [], as, rfl, rfl, by rw [owns_nil]; exact ⟨rfl, rfl⟩, h⟩
  | b :: ts, us, vs, as, h => by
    rw [List.cons_append, owns_cons] at h
    obtain ⟨w, vs', a1, a2, ev, ea, h1, h2⟩ := h
    obtain ⟨v1, v2, b1, b2, e1, e2, k1, k2⟩ := Owns.split h2
    subst ev ea e1 e2
    refine ⟨w :: v1, v2, a1 ++ b1, b2, rfl, (List.append_assoc _ _ _).symm, ?_, k2⟩
    rw [owns_cons]
    exact ⟨w, v1, a1, b1, rfl, rfl, h1, k1⟩
theorem Owns.len {H : Hp} {vs : List V} {ts : List Tt} {as : List Addr} (h : Owns H vs ts as) : vs.length = ts.length := (Owns.at_ ts h).len

/-- a tree made anew behind H: all its lists are new, none stands in it twice -/
def New (H H' : Hp) (v : V) (t : Tt) : Prop := Same H H' ∧ ∃ as, Own H' v t as ∧ as.Nodup ∧ ∀ a, a ∈ as → H a = none
theorem New.at_ {H H' : Hp} {v : V} {t : Tt} (n : New H H' v t) : TreeAt H' v t := let ⟨_, _, o, _⟩ := n; Own.at_ t o
theorem New.of {H0 H H' : Hp} {v : V} {t : Tt} (n : New H H' v t) (s : Same H0 H) : New H0 H' v t := by
  obtain ⟨k, as, o, nd, f⟩ := n
  exact ⟨s.trans k, as, o, nd, fun a ha => s.free (f a ha)⟩
theorem New.step {H H' H2 : Hp} {v : V} {t : Tt} (n : New H H' v t) (s : Same H' H2) : New H H2 v t := by
  obtain ⟨k, as, o, nd, f⟩ := n
  exact ⟨k.trans s, as, Own.frame t o fun a _ u e => s a u e, nd, f⟩
theorem same_new {H : Hp} {p : Addr} (h : H p = none) (o : HO) : Same H (upd H p o) := fun b u q => by rw [upd_ne (ne_of_none q h)]; exact q

/-- a new list D that is filled with new trees -/
def Grow (H H' : Hp) (D : Addr) (ts : List Tt) : Prop := Same H H' ∧ H D = none ∧ ∃ acc as, H' D = some (.lst acc) ∧ Owns H' acc ts as ∧ (D :: as).Nodup ∧ ∀ a, a ∈ as → H a = none
theorem Grow.start {H : Hp} {D : Addr} (h : H D = none) : Grow H (upd H D (.lst [])) D [] :=
  ⟨same_new h _, h, [], [], upd_same, by rw [owns_nil]; exact ⟨rfl, rfl⟩, List.nodup_cons.mpr ⟨by simp, List.nodup_nil⟩, fun a ha => by cases ha⟩
theorem Grow.step {H H' H2 : Hp} {D : Addr} {ts : List Tt} (g : Grow H H' D ts) (s : Same H' H2) : Grow H H2 D ts := by
  obtain ⟨k, hD, acc, as, h1, h2, nd, f⟩ := g
  exact ⟨k.trans s, hD, acc, as, s _ _ h1, Owns.frame ts h2 fun a _ u e => s a u e, nd, f⟩
theorem Grow.same {H H' : Hp} {D : Addr} {ts : List Tt} (g : Grow H H' D ts) : Same H H' := g.1
theorem Grow.done {H H' : Hp} {D : Addr} {ts : List Tt} (g : Grow H H' D ts) : New H H' (.ref D) (.mk ts) := by
  obtain ⟨k, hD, acc, as, h1, h2, nd, f⟩ := g
  refine ⟨k, D :: as, by rw [own_mk]; exact ⟨D, acc, as, rfl, rfl, h1, h2⟩, nd, fun a ha => ?_⟩
  rcases List.mem_cons.mp ha with e | ha
  · rw [e]; exact hD
  · exact f a ha
theorem Grow.at_ {H H' : Hp} {D : Addr} {ts : List Tt} (g : Grow H H' D ts) : ∃ acc, H' D = some (.lst acc) ∧ TreesAt H' acc ts ∧ acc.length = ts.length := by
  obtain ⟨k, hD, acc, as, h1, h2, nd, f⟩ := g
  exact ⟨acc, h1, Owns.at_ ts h2, h2.len⟩
/-- a new tree put in at a place -/
theorem Grow.put {H H' H2 : Hp} {D : Addr} {l r : List Tt} {v : V} {t : Tt} (g : Grow H H' D (l ++ r)) (n : New H' H2 v t) :
    ∃ av rv, H2 D = some (.lst (av ++ rv)) ∧ av.length = l.length ∧ rv.length = r.length ∧ Grow H (upd H2 D (.lst (av ++ v :: rv))) D (l ++ t :: r) := by
  obtain ⟨k, hD, acc, as, h1, h2, nd, f⟩ := g
  obtain ⟨s, bs, o, nb, fb⟩ := n
  obtain ⟨av, rv, a1, a2, e1, e2, k1, k2⟩ := h2.split
  subst e1 e2
  have tr1 := Owns.tracked l k1
  have tr2 := Owns.tracked r k2
  have hDb : D ∉ bs := fun hb => by have := fb D hb; rw [h1] at this; cases this
  obtain ⟨nD, nas⟩ := List.nodup_cons.mp nd
  have dis1 : ∀ a, a ∈ a1 → a ∉ bs := fun a ha hb => by
    obtain ⟨xs, q⟩ := tr1 a ha; rw [fb a hb] at q; cases q
  have dis2 : ∀ a, a ∈ a2 → a ∉ bs := fun a ha hb => by
    obtain ⟨xs, q⟩ := tr2 a ha; rw [fb a hb] at q; cases q
  have keep : ∀ a, a ≠ D → ∀ u, H2 a = some u → upd H2 D (.lst (av ++ v :: rv)) a = some u := fun a ha u q => by rw [upd_ne ha]; exact q
  have ne1 : ∀ a, a ∈ a1 → a ≠ D := fun a ha e => nD (by rw [← e]; exact List.mem_append_left _ ha)
  have ne2 : ∀ a, a ∈ a2 → a ≠ D := fun a ha e => nD (by rw [← e]; exact List.mem_append_right _ ha)
  refine ⟨av, rv, s _ _ h1, k1.len, k2.len, ⟨fun b u q => ?_, hD, av ++ v :: rv, a1 ++ (bs ++ a2), upd_same, ?_, ?_, fun a ha => ?_⟩⟩
  · rw [upd_ne (ne_of_none q hD)]; exact s _ _ (k _ _ q)
  · refine Owns.append (Owns.frame l k1 fun a ha u q => keep a (ne1 a ha) u (s _ _ q)) ?_
    rw [owns_cons]
    refine ⟨v, rv, bs, a2, rfl, rfl, Own.frame t o fun a ha u q => keep a (fun e => hDb (e ▸ ha)) u q, Owns.frame r k2 fun a ha u q => keep a (ne2 a ha) u (s _ _ q)⟩
  · obtain ⟨n1, n2, n3⟩ := List.nodup_append.mp nas
    refine List.nodup_cons.mpr ⟨fun h => ?_, List.nodup_append.mpr ⟨n1, List.nodup_append.mpr ⟨nb, n2, fun a ha b hb e => dis2 b hb (e ▸ ha)⟩, fun a ha b hb e => ?_⟩⟩
    · rcases List.mem_append.mp h with h | h
      · exact ne1 D h rfl
      · rcases List.mem_append.mp h with h | h
        · exact hDb h
        · exact ne2 D h rfl
    · rcases List.mem_append.mp hb with hb | hb
      · exact dis1 a ha (e ▸ hb)
      · exact n3 a ha b hb e
  · rcases List.mem_append.mp ha with ha | ha
    · exact f a (List.mem_append_left _ ha)
    · rcases List.mem_append.mp ha with ha | ha
      · exact k.free (fb a ha)
      · exact f a (List.mem_append_right _ ha)
theorem Grow.more {H H' H2 : Hp} {D : Addr} {ts : List Tt} {v : V} {t : Tt} (g : Grow H H' D ts) (n : New H' H2 v t) :
    ∃ acc, H2 D = some (.lst acc) ∧ acc.length = ts.length ∧ Grow H (upd H2 D (.lst (acc ++ [v]))) D (ts ++ [t]) := by
  have g' : Grow H H' D (ts ++ []) := by rw [List.append_nil]; exact g
  obtain ⟨av, rv, h1, h2, h3, h4⟩ := g'.put n
  have e : rv = [] := List.length_eq_zero_iff.mp h3
  subst e
  rw [List.append_nil] at h1
  exact ⟨av, h1, h2, h4⟩

/-- no knot has too many branches for a list -/
def lim : Nat := 200000
mutual
def fit : Tt → Prop
  | .mk l => l.length ≤ lim ∧ fitL l
def fitL : List Tt → Prop
  | [] => True
  | x :: l => fit x ∧ fitL l
end
theorem fit_mk {l : List Tt} : fit (.mk l) = (l.length ≤ lim ∧ fitL l) := by rw [fit]
theorem fitL_iff : ∀ {l : List Tt}, fitL l ↔ ∀ x, x ∈ l → fit x
  | [] => by simp [fitL]
  | x :: l => by
    rw [fitL, fitL_iff (l := l)]
    simp
theorem fit_bs {l : List Tt} (h : fit (.mk l)) {x : Tt} (hx : x ∈ l) : fit x := by rw [fit_mk] at h; exact fitL_iff.mp h.2 x hx
theorem fit_len {l : List Tt} (h : fit (.mk l)) : l.length ≤ lim := by rw [fit_mk] at h; exact h.1
theorem lim_line {n : Nat} (h : n ≤ lim) : n < sizeLine := Nat.lt_of_le_of_lt h (by decide)
end Hg
/-! Own helpers over the hand layer: joining ways. -/
namespace Hg
open PySem L2
/-- a test's outcome told once, then what follows -/
theorem cut_t {t : TT} {σ : St} {H : Hp} {Q : Bool → Hp → Prop} (R : Bool → Hp → Prop) (h : ∀ Q' : Bool → Hp → Prop, (∀ b H', R b H' → Q' b H') → t σ H Q') (k : ∀ b H', R b H' → Q b H') : t σ H Q := h Q k
theorem cut_if {c : TT} {t u : TS} {D : Ends} {σ : St} {H : Hp} (R : Bool → Hp → Prop) (h : ∀ Q' : Bool → Hp → Prop, (∀ b H', R b H' → Q' b H') → c σ H Q') (k : ∀ b H', R b H' → if b = true then t D σ H' else u D σ H') : tIfS c t u D σ H := h _ k
theorem cut_e {t : TE} {σ : St} {H : Hp} {Q : VK} (R : V → Hp → Prop) (h : ∀ Q' : VK, (∀ v H', R v H' → Q' v H') → t σ H Q') (k : ∀ v H', R v H' → Q v H') : t σ H Q := h Q k
/-- a statement whose ways come together -/
def tCut (t u : TS) : TS := fun D σ H => ∃ N : St → Hp → Prop, t { D with nx := N } σ H ∧ ∀ σ' H', N σ' H' → u D σ' H'
theorem pss_cut2 {X : Cx} {st : Stmt} {rest : List Stmt} {t u : TS} (h1 : PS X st t) (h2 : PSs X rest u) : PSs X (st :: rest) (tCut t u) := by
  refine ⟨fun pins s σ H D I h => ?_⟩
  obtain ⟨N, h, k⟩ := h
  refine wpAny_execs_cons (thn (h1.run pins s σ H { D with nx := N } I h) fun f s1 q => ?_)
  cases f with
  | next =>
    obtain ⟨σ', H', I', q⟩ := q
    exact h2.run pins s1 σ' H' D I' (k σ' H' q)
  | ret v => exact q
  | brk => exact q
  | cont => exact q
def rLenS (K : PySem.W.Frag) : List V → Hp → VK → Prop := fun xs H Q => ∃ p ys, xs = [.ref p] ∧ (SqL K H p ys ∨ SqT K H p ys) ∧ Q (.int ys.length) H
theorem call_len_seqK {X : Cx} : CallR X (.builtin "len") (rLenS X.K) := call_len_seq
def rListOf (K : PySem.W.Frag) : List V → Hp → VK → Prop := fun xs H Q => ∃ p ys, xs = [.ref p] ∧ (SqL K H p ys ∨ SqT K H p ys) ∧ ∀ l, H l = none → Q (.ref l) (upd H l (.lst ys))
theorem call_list_ofK {X : Cx} : CallR X (.type "list") (rListOf X.K) := call_list_of
/-- * of great ints -/
def CMulX (i j : Int) : Prop := i.natAbs.log2 + j.natAbs.log2 < 100000000
theorem CMulX.ok {i j : Int} (h : CMulX i j) : IntMulOk i j := by
  have b : ∀ x : Int, Builtin.Int.intBits x ≤ x.natAbs.log2 + 1 := fun x => by
    unfold Builtin.Int.intBits
    split <;> omega
  have h1 := b i
  have h2 := b j
  have h3 : i.natAbs.log2 + j.natAbs.log2 < 100000000 := h
  have e : bitsLine = 134217728 := by decide
  unfold IntMulOk
  intro z
  rw [Bool.and_eq_true] at z
  have z2 := z.2
  unfold Builtin.Int.intTooBig at z2
  have z3 := of_decide_eq_true z2
  rw [e] at z3
  omega
theorem op_mulX {X : Cx} : OpR X (binaryOp .Mult) (rI CMulX fun i j => .int (i * j)) := opI fun _ _ _ _ _ _ _ hc q => PyProof.Rows.mul_int q hc.ok
theorem log2_le {n k : Nat} (h : n < 2 ^ k) : n.log2 ≤ k := by
  by_cases h0 : n = 0
  · subst h0; simp
  · exact Nat.le_of_lt ((Nat.log2_lt h0).mpr h)
/-- from bounds by powers of two -/
theorem mulX {i j : Int} {a b : Nat} (ha : i.natAbs < 2 ^ a) (hb : j.natAbs < 2 ^ b) (h : a + b < 100000000) : CMulX i j := by
  have x := log2_le ha
  have y := log2_le hb
  unfold CMulX
  omega
end Hg
/-! Things that may be no trees. -/
namespace Hg
open PySem L2
inductive Th where
  | no
  | li (xs : List Th)
mutual
def isT : Th → Nat → Int → Bool × Int
  | .no, _, L => (false, L)
  | .li xs, d, L => if 40 < d ∨ L < 1 then (false, L) else ((isTl xs (d + 1) (L - 1)).1.all id, (isTl xs (d + 1) (L - 1)).2)
def isTl : List Th → Nat → Int → List Bool × Int
  | [], _, L => ([], L)
  | x :: xs, d, L => ((isT x d L).1 :: (isTl xs d (isT x d L).2).1, (isTl xs d (isT x d L).2).2)
end
theorem isT_no {d : Nat} {L : Int} : isT .no d L = (false, L) := by rw [isT]
theorem isT_li {xs : List Th} {d : Nat} {L : Int} : isT (.li xs) d L = if 40 < d ∨ L < 1 then (false, L) else ((isTl xs (d + 1) (L - 1)).1.all id, (isTl xs (d + 1) (L - 1)).2) := by rw [isT]
theorem isTl_nil {d : Nat} {L : Int} : isTl [] d L = ([], L) := by rw [isTl]
theorem isTl_cons {x : Th} {xs : List Th} {d : Nat} {L : Int} : isTl (x :: xs) d L = ((isT x d L).1 :: (isTl xs d (isT x d L).2).1, (isTl xs d (isT x d L).2).2) := by rw [isTl]
theorem isTl_snoc : ∀ (xs : List Th) (x : Th) (d : Nat) (L : Int), isTl (xs ++ [x]) d L = ((isTl xs d L).1 ++ [(isT x d (isTl xs d L).2).1], (isT x d (isTl xs d L).2).2)
  | [], x, d, L => by rw [List.nil_append, isTl_cons, isTl_nil, isTl_nil]; rfl
  | y :: xs, x, d, L => by rw [List.cons_append, isTl_cons, isTl_snoc xs, isTl_cons]; rfl
theorem isTl_len : ∀ (xs : List Th) (d : Nat) (L : Int), (isTl xs d L).1.length = xs.length
  | [], d, L => by rw [isTl_nil]; rfl
  | y :: xs, d, L => by rw [isTl_cons, List.length_cons, List.length_cons, isTl_len xs]
/-- no list -/
inductive Leaf (H : Hp) : V → Prop where
  | non : Leaf H .non
  | bl (b : Bool) : Leaf H (.bl b)
  | int (i : Int) : Leaf H (.int i)
  | str (x : Str) : Leaf H (.str x)
  | tup {a : Addr} {xs : List V} (e : H a = some (.tup xs)) : Leaf H (.ref a)
  | dK {a : Addr} {kvs : List (Key × V)} (e : H a = some (.dK kvs)) : Leaf H (.ref a)
theorem Leaf.same {H H' : Hp} {v : V} (s : Same H H') (h : Leaf H v) : Leaf H' v := by
  cases h with
  | non => exact .non
  | bl b => exact .bl b
  | int i => exact .int i
  | str x => exact .str x
  | tup e => exact .tup (s _ _ e)
  | dK e => exact .dK (s _ _ e)
theorem Leaf.isi {K : PySem.W.Frag} {H : Hp} {v : V} (h : Leaf H v) : ∃ t, TyX K H v t ∧ PySem.W.kitOne K t (.type "list") = some false := by
  cases h with
  | non => exact ⟨_, .base .non, kit_ty (by decide +kernel)⟩
  | bl b => exact ⟨_, .base (.bl b), kit_ty (by decide +kernel)⟩
  | int i => exact ⟨_, .base (.int i), kit_ty (by decide +kernel)⟩
  | str x => exact ⟨_, .base (.str x), kit_ty (by decide +kernel)⟩
  | tup e => exact ⟨_, .base (.tup e), kit_ty (by decide +kernel)⟩
  | dK e => exact ⟨_, .base (.dK e), kit_ty (by decide +kernel)⟩
theorem list_isi {K : PySem.W.Frag} {H : Hp} {a : Addr} {xs : List V} (h : H a = some (.lst xs)) : TyX K H (.ref a) (.type "list") ∧ PySem.W.kitOne K (.type "list") (.type "list") = some true :=
  ⟨.base (.lst h), kit_ty (by decide +kernel)⟩
mutual
def ThAt (H : Hp) : V → Th → Prop
  | v, .no => Leaf H v
  | v, .li bs => ∃ a vs, v = .ref a ∧ H a = some (.lst vs) ∧ ThsAt H vs bs
def ThsAt (H : Hp) : List V → List Th → Prop
  | vs, [] => vs = []
  | vs, b :: bs => ∃ v vs', vs = v :: vs' ∧ ThAt H v b ∧ ThsAt H vs' bs
end
theorem thAt_no {H : Hp} {v : V} : ThAt H v .no = Leaf H v := by rw [ThAt]
theorem thAt_li {H : Hp} {v : V} {bs : List Th} : ThAt H v (.li bs) = ∃ a vs, v = .ref a ∧ H a = some (.lst vs) ∧ ThsAt H vs bs := by rw [ThAt]
theorem thsAt_nil {H : Hp} {vs : List V} : ThsAt H vs [] = (vs = []) := by rw [ThsAt]
theorem thsAt_cons {H : Hp} {vs : List V} {b : Th} {bs : List Th} : ThsAt H vs (b :: bs) = ∃ v vs', vs = v :: vs' ∧ ThAt H v b ∧ ThsAt H vs' bs := by rw [ThsAt]
mutual
theorem ThAt.same {H H' : Hp} (s : Same H H') : ∀ {v : V} (t : Th), ThAt H v t → ThAt H' v t
  | v, .no, h => by rw [thAt_no] at h ⊢; exact h.same s
  | v, .li bs, h => by
    rw [thAt_li] at h ⊢
    obtain ⟨a, vs, e, h1, h2⟩ := h
    exact ⟨a, vs, e, s _ _ h1, ThsAt.same s bs h2⟩
theorem ThsAt.same {H H' : Hp} (s : Same H H') : ∀ {vs : List V} (ts : List Th), ThsAt H vs ts → ThsAt H' vs ts
  | vs, [], h => by rw [thsAt_nil] at h ⊢; exact h
  | vs, b :: bs, h => by
    rw [thsAt_cons] at h ⊢
    obtain ⟨v, vs', e, h1, h2⟩ := h
    exact ⟨v, vs', e, ThAt.same s b h1, ThsAt.same s bs h2⟩
end
theorem ThsAt.len {H : Hp} : ∀ {vs : List V} {ts : List Th}, ThsAt H vs ts → vs.length = ts.length
  | vs, [], h => by rw [thsAt_nil] at h; rw [h]; rfl
  | vs, b :: bs, h => by
    rw [thsAt_cons] at h
    obtain ⟨v, vs', e, _, h2⟩ := h
    rw [e, List.length_cons, List.length_cons, ThsAt.len h2]
theorem ThsAt.get {H : Hp} : ∀ {vs : List V} {ts : List Th} {i : Nat} {v : V}, ThsAt H vs ts → vs[i]? = some v → ∃ t, ts[i]? = some t ∧ ThAt H v t
  | vs, [], i, v, h, e => by rw [thsAt_nil] at h; rw [h] at e; cases e
  | vs, b :: bs, i, v, h, e => by
    rw [thsAt_cons] at h
    obtain ⟨w, vs', ev, h1, h2⟩ := h
    subst ev
    cases i with
    | zero =>
      have e' : w = v := Option.some.inj (by simpa using e)
      exact ⟨b, rfl, e' ▸ h1⟩
    | succ i =>
      obtain ⟨t, e1, h3⟩ := ThsAt.get h2 (i := i) (v := v) (by simpa using e)
      exact ⟨t, by simpa using e1, h3⟩
mutual
def toTh : Tt → Th
  | .mk l => .li (toThL l)
def toThL : List Tt → List Th
  | [] => []
  | x :: l => toTh x :: toThL l
end
mutual
theorem TreeAt.th {H : Hp} : ∀ {v : V} (t : Tt), TreeAt H v t → ThAt H v (toTh t)
  | v, .mk bs, h => by
    rw [treeAt_mk] at h
    obtain ⟨a, vs, e, h1, h2⟩ := h
    rw [toTh, thAt_li]
    exact ⟨a, vs, e, h1, TreesAt.th bs h2⟩
theorem TreesAt.th {H : Hp} : ∀ {vs : List V} (ts : List Tt), TreesAt H vs ts → ThsAt H vs (toThL ts)
  | vs, [], h => by rw [treesAt_nil] at h; rw [toThL, thsAt_nil]; exact h
  | vs, b :: bs, h => by
    rw [treesAt_cons] at h
    obtain ⟨v, vs', e, h1, h2⟩ := h
    rw [toThL, thsAt_cons]
    exact ⟨v, vs', e, TreeAt.th b h1, TreesAt.th bs h2⟩
end
theorem knots_pos (t : Tt) : 1 ≤ knots t := by cases t with | mk l => rw [knots]; omega
theorem depth_mk_le {l : List Tt} {d n : Nat} (h : depth (.mk l) + d ≤ n) : ∀ x, x ∈ l → depth x + (d + 1) ≤ n := fun x hx => by
  rw [depth] at h
  have : ∀ {l : List Tt} {x : Tt}, x ∈ l → depth x + 1 ≤ depthL l := by
    intro l
    induction l with
    | nil => intro x h; cases h
    | cons y l ih =>
      intro x h
      rw [depthL]
      rcases List.mem_cons.mp h with e | h
      · rw [e]; omega
      · have := ih h; omega
  have := this hx
  omega
mutual
theorem isT_tree : ∀ (t : Tt) (d : Nat) (L : Int), depth t + d ≤ 40 → (knots t : Int) ≤ L → isT (toTh t) d L = (true, L - knots t)
  | .mk l, d, L, hd, hk => by
    have hk' : ((1 + knotsL l : Nat) : Int) ≤ L := by rw [knots] at hk; exact hk
    have ih := isT_trees l (d + 1) (L - 1) (depth_mk_le hd) (by omega)
    rw [toTh, isT_li, if_neg (by omega), ih, knots]
    refine Prod.ext ?_ ?_
    · show (List.replicate l.length true).all id = true
      simp
    · show L - 1 - (knotsL l : Int) = L - ((1 + knotsL l : Nat) : Int)
      omega
theorem isT_trees : ∀ (l : List Tt) (d : Nat) (L : Int), (∀ x, x ∈ l → depth x + d ≤ 40) → (knotsL l : Int) ≤ L → isTl (toThL l) d L = (List.replicate l.length true, L - knotsL l)
  | [], d, L, _, _ => by rw [toThL, isTl_nil, knotsL]; simp
  | x :: l, d, L, hd, hk => by
    have hk' : ((knots x + knotsL l : Nat) : Int) ≤ L := by rw [knotsL] at hk; exact hk
    rw [toThL, isTl_cons, isT_tree x d L (hd x List.mem_cons_self) (by omega), isT_trees l d (L - knots x) (fun y hy => hd y (List.mem_cons_of_mem _ hy)) (by omega), knotsL]
    refine Prod.ext (by simp [List.replicate_succ]) ?_
    show L - (knots x : Int) - (knotsL l : Int) = L - ((knots x + knotsL l : Nat) : Int)
    omega
end
mutual
def fitTh : Th → Prop
  | .no => True
  | .li l => l.length ≤ lim ∧ fitThL l
def fitThL : List Th → Prop
  | [] => True
  | x :: l => fitTh x ∧ fitThL l
end
theorem fitTh_li {l : List Th} : fitTh (.li l) = (l.length ≤ lim ∧ fitThL l) := by rw [fitTh]
theorem fitThL_mem : ∀ {l : List Th}, fitThL l → ∀ x, x ∈ l → fitTh x
  | [], _, x, h => by cases h
  | y :: l, k, x, h => by
    rw [fitThL] at k
    rcases List.mem_cons.mp h with e | h
    · rw [e]; exact k.1
    · exact fitThL_mem k.2 x h
theorem toThL_len : ∀ l : List Tt, (toThL l).length = l.length
  | [] => by rw [toThL]; rfl
  | x :: l => by rw [toThL, List.length_cons, List.length_cons, toThL_len l]
mutual
theorem fit_toTh : ∀ t : Tt, fit t → fitTh (toTh t)
  | .mk l, h => by rw [fit_mk] at h; rw [toTh, fitTh_li, toThL_len]; exact ⟨h.1, fit_toThL l h.2⟩
theorem fit_toThL : ∀ l : List Tt, fitL l → fitThL (toThL l)
  | [], _ => by rw [toThL, fitThL]; trivial
  | x :: l, h => by rw [fitL] at h; rw [toThL, fitThL]; exact ⟨fit_toTh x h.1, fit_toThL l h.2⟩
end
theorem knotsL_len : ∀ l : List Tt, l.length ≤ knotsL l
  | [] => by simp [knotsL]
  | x :: l => by rw [knotsL, List.length_cons]; have := knotsL_len l; have := knots_pos x; omega
theorem knotsL_mem : ∀ {l : List Tt} {x : Tt}, x ∈ l → knots x ≤ knotsL l
  | y :: l, x, h => by
    rw [knotsL]
    rcases List.mem_cons.mp h with e | h
    · rw [e]; omega
    · have := knotsL_mem h; omega
theorem fit_of_knots {n : Nat} (hn : n ≤ lim) : ∀ (t : Tt), knots t ≤ n → fit t := by
  intro t
  induction t using Tt.ind with
  | h l ih =>
    intro h
    rw [knots] at h
    rw [fit_mk]
    have := knotsL_len l
    refine ⟨by omega, fitL_iff.mpr fun x hx => ih x hx ?_⟩
    have := knotsL_mem hx
    omega
/-- a tree to be asked with -/
def okT (t : Tt) : Prop := knots t ≤ 300 ∧ depth t ≤ 40
theorem okT.fit {t : Tt} (h : okT t) : fit t := fit_of_knots (n := 300) (by decide) t h.1
theorem okT.dp {t : Tt} (h : okT t) : depth t < 41 := Nat.lt_succ_of_le h.2
/-- no tree to be asked with -/
def Bad (H : Hp) (v : V) : Prop := ∃ th, ThAt H v th ∧ fitTh th ∧ (isT th 0 300).1 = false
theorem Bad.same {H H' : Hp} {v : V} (s : Same H H') (h : Bad H v) : Bad H' v := let ⟨th, a, b, c⟩ := h; ⟨th, ThAt.same s th a, b, c⟩
end Hg
/-! Trees as data: == of trees. -/
namespace Hg
open PySem L2
mutual
def toD : Tt → PyData
  | .mk l => .list (toDL l)
def toDL : List Tt → List PyData
  | [] => []
  | x :: l => toD x :: toDL l
end
theorem toD_mk (l : List Tt) : toD (.mk l) = .list (toDL l) := by rw [toD]
mutual
theorem TreeAt.dp {K : PySem.W.Frag} {H : Hp} : ∀ {v : V} (t : Tt), TreeAt H v t → Dp K H v (toD t)
  | v, .mk bs, h => by
    rw [treeAt_mk] at h
    obtain ⟨a, vs, e, h1, h2⟩ := h
    subst e
    rw [toD]
    exact .lst (SqL.of h1) (TreesAt.dp bs h2)
theorem TreesAt.dp {K : PySem.W.Frag} {H : Hp} : ∀ {vs : List V} (ts : List Tt), TreesAt H vs ts → DpAll K H vs (toDL ts)
  | vs, [], h => by rw [treesAt_nil] at h; subst h; rw [toDL]; exact .nil
  | vs, b :: bs, h => by
    rw [treesAt_cons] at h
    obtain ⟨v, vs', e, h1, h2⟩ := h
    subst e
    rw [toDL]
    exact .cons (TreeAt.dp b h1) (TreesAt.dp bs h2)
end
mutual
theorem toD_lay : ∀ t : Tt, (toD t).canLay0 = true
  | .mk l => by rw [toD, PyData.canLay0]; exact toDL_lay l
theorem toDL_lay : ∀ l : List Tt, PyData.canLayAll0 (toDL l) = true
  | [] => by rw [toDL, PyData.canLayAll0]
  | x :: l => by rw [toDL, PyData.canLayAll0, toD_lay x, toDL_lay l]; rfl
end
mutual
theorem toD_depth : ∀ t : Tt, (toD t).depth = depth t + 1
  | .mk l => by rw [toD, PyData.depth, toDL_depth l, depth]
theorem toDL_depth : ∀ l : List Tt, PyData.depthAll (toDL l) = depthL l
  | [] => by rw [toDL, PyData.depthAll, depthL]
  | x :: l => by rw [toDL, PyData.depthAll, toD_depth x, toDL_depth l, depthL]
end
theorem shaped_tree {t : Tt} (h : depth t ≤ 63) : SeqAt.shaped (toD t) = true := by
  show ((toD t).canLay0 && decide ((toD t).depth ≤ 64)) = true
  rw [toD_lay, toD_depth, Bool.true_and]
  exact decide_eq_true (by omega)
mutual
theorem eqv_tree : ∀ t s : Tt, PyData.eqv (toD t) (toD s) = true ↔ t = s
  | .mk l, .mk m => by
    rw [toD, toD, PyData.eqv]
    rw [eqv_trees l m]
    constructor
    · intro e; rw [e]
    · intro e; injection e
theorem eqv_trees : ∀ l m : List Tt, PyData.eqvAll (toDL l) (toDL m) = true ↔ l = m
  | [], [] => by simp [toDL, PyData.eqvAll]
  | [], y :: m => by simp [toDL, PyData.eqvAll]
  | x :: l, [] => by simp [toDL, PyData.eqvAll]
  | x :: l, y :: m => by
    rw [toDL, toDL, PyData.eqvAll, Bool.and_eq_true, eqv_tree x y, eqv_trees l m]
    constructor
    · rintro ⟨e1, e2⟩; rw [e1, e2]
    · intro e; injection e with e1 e2; exact ⟨e1, e2⟩
end
instance : DecidableEq Tt := fun a b => decidable_of_iff (PyData.eqv (toD a) (toD b) = true) (eqv_tree a b)
theorem eqv_dec (t s : Tt) : PyData.eqv (toD t) (toD s) = decide (t = s) := by
  by_cases h : t = s
  · rw [decide_eq_true h]; exact (eqv_tree t s).mpr h
  · rw [decide_eq_false h]
    exact Bool.eq_false_iff.mpr fun e => h ((eqv_tree t s).mp e)
/-- == of two trees -/
theorem eq_trees {K : PySem.W.Frag} {H : Hp} {v u : V} {t s : Tt} {Q : VK} (h1 : TreeAt H v t) (h2 : TreeAt H u s) (d1 : depth t ≤ 63) (d2 : depth s ≤ 63) (q : Q (.bl (decide (t = s))) H) : rEqD K v u H Q :=
  ⟨_, _, TreeAt.dp t h1, TreeAt.dp s h2, shaped_tree d1, shaped_tree d2, by rw [eqv_dec]; exact q⟩
theorem ne_trees {K : PySem.W.Frag} {H : Hp} {v u : V} {t s : Tt} {Q : VK} (h1 : TreeAt H v t) (h2 : TreeAt H u s) (d1 : depth t ≤ 63) (d2 : depth s ≤ 63) (q : Q (.bl (!decide (t = s))) H) : rNeD K v u H Q :=
  ⟨_, _, TreeAt.dp t h1, TreeAt.dp s h2, shaped_tree d1, shaped_tree d2, by rw [eqv_dec]; exact q⟩
theorem nil_tree {H : Hp} {p : Addr} (h : H p = some (.lst [])) : TreeAt H (.ref p) (.mk []) := by rw [treeAt_mk]; exact ⟨p, [], rfl, h, by rw [treesAt_nil]⟩
end Hg
/-! Lists of whole numbers as data. -/
namespace Hg
open PySem L2
theorem dpInts {K : PySem.W.Frag} {H : Hp} : ∀ ns : List Int, DpAll K H (ns.map V.int) (ns.map PyData.int)
  | [] => .nil
  | n :: ns => .cons (.int n) (dpInts ns)
theorem intsLay : ∀ ns : List Int, PyData.canLayAll0 (ns.map PyData.int) = true
  | [] => by rw [List.map_nil, PyData.canLayAll0]
  | n :: ns => by rw [List.map_cons, PyData.canLayAll0, PyData.canLay0, intsLay ns]; rfl
theorem intsDepth : ∀ ns : List Int, PyData.depthAll (ns.map PyData.int) = 0
  | [] => by rw [List.map_nil, PyData.depthAll]
  | n :: ns => by rw [List.map_cons, PyData.depthAll, PyData.depth, intsDepth ns]; rfl
theorem intsShaped (ns : List Int) : SeqAt.shaped (.list (ns.map PyData.int)) = true := by
  show (PyData.canLay0 (.list (ns.map PyData.int)) && decide (PyData.depth (.list (ns.map PyData.int)) ≤ 64)) = true
  rw [PyData.canLay0, PyData.depth, intsLay, intsDepth]
  rfl
theorem intsEqv : ∀ ns ms : List Int, PyData.eqvAll (ns.map PyData.int) (ms.map PyData.int) = decide (ns = ms)
  | [], [] => by simp [PyData.eqvAll]
  | [], m :: ms => by simp [PyData.eqvAll]
  | n :: ns, [] => by simp [PyData.eqvAll]
  | n :: ns, m :: ms => by
    rw [List.map_cons, List.map_cons, PyData.eqvAll, PyData.eqv, intsEqv ns ms]
    by_cases h : n = m
    · subst h; simp
    · simp [h]
/-- == and != of two lists of ints -/
theorem eq_ints {K : PySem.W.Frag} {H : Hp} {a b : Addr} {ns ms : List Int} {Q : VK} (h1 : SqL K H a (ns.map V.int)) (h2 : SqL K H b (ms.map V.int)) (q : Q (.bl (decide (ns = ms))) H) : rEqD K (.ref a) (.ref b) H Q :=
  ⟨_, _, .lst h1 (dpInts ns), .lst h2 (dpInts ms), intsShaped ns, intsShaped ms, by rw [PyData.eqv, intsEqv]; exact q⟩
theorem ne_ints {K : PySem.W.Frag} {H : Hp} {a b : Addr} {ns ms : List Int} {Q : VK} (h1 : SqL K H a (ns.map V.int)) (h2 : SqL K H b (ms.map V.int)) (q : Q (.bl (!decide (ns = ms))) H) : rNeD K (.ref a) (.ref b) H Q :=
  ⟨_, _, .lst h1 (dpInts ns), .lst h2 (dpInts ms), intsShaped ns, intsShaped ms, by rw [PyData.eqv, intsEqv]; exact q⟩
end Hg
/-! A tree in the heap that gets one more branch; bits of numbers. -/
namespace Hg
open PySem L2
theorem knotsL_append : ∀ l m : List Tt, knotsL (l ++ m) = knotsL l + knotsL m
  | [], m => by rw [List.nil_append, knotsL]; omega
  | x :: l, m => by rw [List.cons_append, knotsL, knotsL, knotsL_append l m]; omega
theorem depthL_append : ∀ l m : List Tt, depthL (l ++ m) = max (depthL l) (depthL m)
  | [], m => by rw [List.nil_append, depthL]; omega
  | x :: l, m => by rw [List.cons_append, depthL, depthL, depthL_append l m]; omega
theorem Owns.splitV {H : Hp} : ∀ {v1 v2 : List V} {ts : List Tt} {as : List Addr}, Owns H (v1 ++ v2) ts as → ∃ t1 t2 a1 a2, ts = t1 ++ t2 ∧ as = a1 ++ a2 ∧ Owns H v1 t1 a1 ∧ Owns H v2 t2 a2
  | [], v2, ts, as, h => ⟨[], ts, [], as, rfl, rfl, by rw [owns_nil]; exact ⟨rfl, rfl⟩, h⟩
  | v :: v1, v2, [], as, h => by rw [owns_nil] at h; cases h.1
  | v :: v1, v2, t :: ts, as, h => by
    rw [owns_cons] at h
    obtain ⟨v', vs', a1, a2, e, rfl, o1, o2⟩ := h
    rw [List.cons_append] at e
    injection e with e1 e2
    subst e1 e2
    obtain ⟨t1, t2, b1, b2, rfl, rfl, k1, k2⟩ := Owns.splitV o2
    exact ⟨t :: t1, t2, a1 ++ b1, b2, rfl, (List.append_assoc _ _ _).symm, by rw [owns_cons]; exact ⟨v, v1, a1, b1, rfl, rfl, o1, k1⟩, k2⟩
section
variable {H H' : Hp} {a p : Addr} {l r : List V}
mutual
theorem Own.graft (hk : ∀ b, b ≠ a → ∀ o, H b = some o → H' b = some o) (ha : H a = some (.lst (l ++ r))) (ha' : H' a = some (.lst (l ++ .ref p :: r))) (hp : H' p = some (.lst [])) :
    ∀ {v : V} (t : Tt) {as : List Addr}, Own H v t as → as.Nodup → a ∈ as → ∃ t' as', Own H' v t' as' ∧ as'.Perm (p :: as) ∧ knots t' = knots t + 1 ∧ depth t' ≤ depth t + 1
  | v, .mk bs, as, h, nd, hm => by
    rw [own_mk] at h
    obtain ⟨b, vs, as', rfl, rfl, hb, ow⟩ := h
    obtain ⟨nb, nd'⟩ := List.nodup_cons.mp nd
    by_cases e : b = a
    · subst e
      rw [hb] at ha
      injection ha with ha
      injection ha with ha
      subst ha
      obtain ⟨t1, t2, a1, a2, rfl, rfl, o1, o2⟩ := ow.splitV
      refine ⟨.mk (t1 ++ .mk [] :: t2), b :: (a1 ++ (p :: a2)), ?_, ?_, ?_, ?_⟩
      · rw [own_mk]
        refine ⟨b, _, _, rfl, rfl, ha', Owns.append (Owns.frame _ o1 fun c hc o q => hk c (fun z => nb (by rw [← z]; exact List.mem_append_left _ hc)) o q) ?_⟩
        rw [owns_cons]
        refine ⟨.ref p, r, [p], a2, rfl, rfl, ?_, Owns.frame _ o2 fun c hc o q => hk c (fun z => nb (by rw [← z]; exact List.mem_append_right _ hc)) o q⟩
        rw [own_mk]
        exact ⟨p, [], [], rfl, rfl, hp, by rw [owns_nil]; exact ⟨rfl, rfl⟩⟩
      · refine (List.Perm.cons b (List.perm_middle (l₁ := a1) (a := p) (l₂ := a2))).trans (List.Perm.swap p b _)
      · rw [knots, knots, knotsL_append, knotsL_append, knotsL, knots, knotsL]; omega
      · rw [depth, depth, depthL_append, depthL_append, depthL, depth, depthL]; omega
    · have hm' : a ∈ as' := by
        rcases List.mem_cons.mp hm with z | z
        · exact absurd z.symm e
        · exact z
      obtain ⟨ts', as2, o, pm, k, d⟩ := Owns.graft hk ha ha' hp bs ow nd' hm'
      refine ⟨.mk ts', b :: as2, ?_, (pm.cons b).trans (List.Perm.swap p b _), ?_, ?_⟩
      · rw [own_mk]; exact ⟨b, vs, as2, rfl, rfl, hk b e _ hb, o⟩
      · rw [knots, knots, k]; omega
      · rw [depth, depth]; exact d
theorem Owns.graft (hk : ∀ b, b ≠ a → ∀ o, H b = some o → H' b = some o) (ha : H a = some (.lst (l ++ r))) (ha' : H' a = some (.lst (l ++ .ref p :: r))) (hp : H' p = some (.lst [])) :
    ∀ {vs : List V} (ts : List Tt) {as : List Addr}, Owns H vs ts as → as.Nodup → a ∈ as → ∃ ts' as', Owns H' vs ts' as' ∧ as'.Perm (p :: as) ∧ knotsL ts' = knotsL ts + 1 ∧ depthL ts' ≤ depthL ts + 1
  | vs, [], as, h, nd, hm => by rw [owns_nil] at h; rw [h.2] at hm; cases hm
  | vs, b :: bs, as, h, nd, hm => by
    rw [owns_cons] at h
    obtain ⟨v, vs', a1, a2, rfl, rfl, o1, o2⟩ := h
    obtain ⟨n1, n2, dis⟩ := List.nodup_append.mp nd
    by_cases hm1 : a ∈ a1
    · obtain ⟨t', as1, o, pm, k, d⟩ := Own.graft hk ha ha' hp b o1 n1 hm1
      refine ⟨t' :: bs, as1 ++ a2, ?_, (pm.append_right a2), ?_, ?_⟩
      · rw [owns_cons]
        exact ⟨v, vs', as1, a2, rfl, rfl, o, Owns.frame _ o2 fun c hc u q => hk c (fun z => dis a hm1 c hc z.symm) u q⟩
      · rw [knotsL, knotsL, k]; omega
      · rw [depthL, depthL]; omega
    · have hm2 : a ∈ a2 := by
        rcases List.mem_append.mp hm with z | z
        · exact absurd z hm1
        · exact z
      obtain ⟨ts', as2, o, pm, k, d⟩ := Owns.graft hk ha ha' hp bs o2 n2 hm2
      refine ⟨b :: ts', a1 ++ as2, ?_, ?_, ?_, ?_⟩
      · rw [owns_cons]
        exact ⟨v, vs', a1, as2, rfl, rfl, Own.frame _ o1 fun c hc u q => hk c (fun z => dis c hc a hm2 z) u q, o⟩
      · exact (pm.append_left a1).trans List.perm_middle
      · rw [knotsL, knotsL, k]; omega
      · rw [depthL, depthL]; omega
end
end
/-- fewer than k bits -/
def Bits (i : Int) (k : Nat) : Prop := i.natAbs < 2 ^ k
theorem Bits.mono {i : Int} {a b : Nat} (h : Bits i a) (l : a ≤ b) : Bits i b := Nat.lt_of_lt_of_le h (Nat.pow_le_pow_right (by decide) l)
theorem Bits.add {i j : Int} {a : Nat} (h : Bits i a) (k : Bits j a) : Bits (i + j) (a + 1) := by
  unfold Bits at *
  have := Int.natAbs_add_le i j
  rw [Nat.pow_succ]
  omega
theorem Bits.mul {i j : Int} {a b : Nat} (h : Bits i a) (k : Bits j b) : Bits (i * j) (a + b) := by
  unfold Bits at *
  rw [Int.natAbs_mul, Nat.pow_add]
  exact Nat.mul_lt_mul'' h k
theorem Bits.le {i j : Int} {a : Nat} (h : Bits j a) (l : i.natAbs ≤ j.natAbs) : Bits i a := Nat.lt_of_le_of_lt l h
theorem Bits.div {i j : Int} {a : Nat} (h : Bits i a) : Bits (i / j) a := h.le (Int.natAbs_ediv_le_natAbs i j)
theorem Bits.lt {i : Int} {n a : Nat} (h0 : 0 ≤ i) (h : i < n) (hn : n ≤ 2 ^ a) : Bits i a := by
  unfold Bits
  omega
theorem Bits.mulX {i j : Int} {a b : Nat} (h : Bits i a) (k : Bits j b) (l : a + b < 100000000) : CMulX i j := Hg.mulX h k l
theorem Bits.of_bits {i : Int} {k : Nat} (h : Builtin.Int.intBits i ≤ k) : Bits i k := by
  unfold Bits
  unfold Builtin.Int.intBits at h
  by_cases h0 : i = 0
  · subst h0
    exact Nat.pos_of_neZero (2 ^ k)
  · have h1 : (i == 0) = false := by simpa using h0
    rw [h1, if_neg Bool.false_ne_true] at h
    have h2 : i.natAbs ≠ 0 := by omega
    exact Nat.lt_of_lt_of_le ((Nat.log2_lt h2).mp (Nat.lt_succ_self _)) (Nat.pow_le_pow_right (by decide) h)
end Hg
/-! Written trees. -/
namespace Hg
open PySem L2
def LitE (te : TE) (t : Tt) : Prop := ∀ (σ : St) (H : Hp) (Q : VK), (∀ H' v, Same H H' → TreeAt H' v t → Q v H') → te σ H Q
def LitA (ta : TA) (ts : List Tt) : Prop := ∀ (σ : St) (H : Hp) (Q : List V → Hp → Prop), (∀ H' vs, Same H H' → TreesAt H' vs ts → Q vs H') → ta σ H Q
theorem lit_nil : LitA tNil [] := fun σ H Q h => h H [] (Same.refl H) (by rw [treesAt_nil])
theorem treesAt_c {H : Hp} {v : V} {vs : List V} {t : Tt} {ts : List Tt} (h : TreeAt H v t) (k : TreesAt H vs ts) : TreesAt H (v :: vs) (t :: ts) := by
  rw [treesAt_cons]; exact ⟨v, vs, rfl, h, k⟩
theorem lit_cons {te : TE} {ta : TA} {t : Tt} {ts : List Tt} (h : LitE te t) (k : LitA ta ts) : LitA (tCons te ta) (t :: ts) := fun σ H Q q =>
  h σ H _ fun H1 v s1 h1 => k σ H1 _ fun H2 vs s2 h2 => q H2 (v :: vs) (s1.trans s2) (treesAt_c (TreeAt.same s2 t h1) h2)
theorem lit_lst {ta : TA} {ts : List Tt} (k : LitA ta ts) (hl : ts.length ≤ lim := by decide) : LitE (tLst ta) (.mk ts) := fun σ H Q q =>
  k σ H _ fun H1 vs s1 h1 => ⟨Nat.le_of_lt (lim_line (by rw [h1.len]; exact hl)), fun p np => q _ _ (s1.trans (same_new np _)) (by
    rw [treeAt_mk]; exact ⟨p, vs, rfl, upd_same, TreesAt.same (same_new np _) ts h1⟩)⟩
theorem lit0 : LitE (tLst tNil) (.mk []) := lit_lst lit_nil
end Hg
/-! any(list of truths) while an exception is handled (its context None); defs that raise, by L2N. -/
namespace Hg
open PySem PySem.Spec PyProof.Rows L2
theorem pyNext_list_end_hot {prog : Program} {w : World} {A : Around} {E : Value → Shared → Prop} {s : Shared} {it l x1 : Addr} {i : Nat} {items : Array Value} {Q : Option Value → Shared → Prop} (hot : HotX.HotAt A x1 s.heap)
    (hit : s.heap.IsListIter it l i) (hl : s.heap.IsList l items) (hx : items[i]? = none) (hne : x1 ≠ it)
    (hQ : ∀ h', (∀ b o, b ≠ it → s.heap.get? b = some o → h'.get? b = some o) → Q none { s with heap := h' }) : wpAny (model prog w) A (pyNext (.ref it)) Q E s := by
  obtain ⟨hh, o1, vs1, h1, d1, c1⟩ := hot
  obtain ⟨o, ho, hc, hd⟩ := id hit
  obtain ⟨ol, hol, _, nl, hdl⟩ := hl
  unfold pyNext
  refine wpAny_bind (wpAny_attempt (wpAny_callSpecial?_slot (name := Str.ofString "__next__") hit.typeIs slot_listiter_next
    (wpAny_call_entry slot_listiter_next hit.typeIs entry_listiter_next ?_ (args_listiter_next _))))
  show wpAny _ _ (field (.ref it) 0 >>= _) _ _ s
  refine wpAny_bind (wpAny_field ho hd (x := .ref l) rfl ?_)
  show wpAny _ _ (if (Value.ref l == Value.none) = true then _ else _) _ _ s
  rw [if_neg (show ¬ ((Value.ref l == Value.none) = true) from Bool.false_ne_true)]
  show wpAny _ _ (field (.ref it) 1 >>= _) _ _ s
  refine wpAny_bind (wpAny_field ho hd (x := .int i 0) rfl ?_)
  show wpAny _ _ (seqItems? (.ref l) >>= _) _ _ s
  refine wpAny_bind (wpAny_seqItems hol hdl ?_)
  simp only [Int.toNat_natCast, hx]
  refine wpAny_bind (wpAny_rule (wpAny_bind (wpAny_setField ho hd (by simp) ?_)))
  show wpAny _ _ (newExc (.type "StopIteration") [] >>= _) _ _ _
  refine wpAny_bind ?_
  simp only [newExc, newTuple]
  refine wpAny_bind (wpAny_newObj_type ?_ (by size_fits))
  refine wpAny_bind (m := firstArgMember _ _) (wpAny_of_eq (a := Value.none) (by first | rfl | (simp only [firstArgMember]; rfl)) ?_)
  refine wpAny_newObj_type ?_ (by size_fits)
  have k1 : ∀ (b : Addr) (o' : Obj), b ≠ it → s.heap.get? b = some o' → (s.heap.update it (Obj.mapFields (·.setIfInBounds 0 Value.none))).get? b = some o' := fun b o' hb e => by
    rw [Heap.get?_update_other _ _ (Ne.symm hb)]; exact e
  have h1' := k1 x1 o1 hne h1
  refine HotX.raiseNew_hot ⟨hh, o1, vs1, Heap.get?_push_of_some _ (Heap.get?_push_of_some _ h1'), d1, c1⟩ (Nat.ne_of_lt (Heap.lt_size (Heap.get?_push_of_some _ h1'))) (Heap.get?_push_size _ rfl) rfl (by first | (simp; done) | (simp; omega) | (simp only [Array.size_append]; simp; omega)) ?_
  refine wpAny_bind (wpAny_isInstance (T := "StopIteration") (b := true) ⟨_, Heap.get?_update_self _ (Heap.get?_push_size _ rfl) rfl, rfl⟩ isSubtype_stop ?_)
  refine wpAny_pure (hQ _ fun b o' hb e => ?_)
  rw [Heap.get?_update_other _ _ (Nat.ne_of_gt (Heap.lt_size (Heap.get?_push_of_some _ (k1 b o' hb e))))]
  exact Heap.get?_push_of_some _ (Heap.get?_push_of_some _ (k1 b o' hb e))
end Hg
namespace Hg
open PySem PySem.Spec PyProof.Rows L2
/-- a list walked while x1 is handled, whose context is None -/
theorem walks_hot {prog : Program} {w : World} {A : Around} {x1 : Addr} (hh : A.handled = some (.ref x1)) (I ax : Addr) (hne : ax ≠ I) (hx : x1 ≠ I) (items : Array Value) :
    Walks prog w A I [I, ax, x1] [I] items.size (fun i v => items[i]? = some v) (fun i h => (h.IsListIter I ax i ∧ h.IsList ax items) ∧ ∃ (o : Obj) (vs : Array Value), h.get? x1 = some o ∧ o.data = .fields vs ∧ vs[2]? = some .none) where
  sub := fun b hb => by simp at hb; simp [hb]
  frame := fun _ _ _ st hk => by
    obtain ⟨⟨s1, s2⟩, o, vs, h1, h2⟩ := st
    exact ⟨⟨s1.at fun o e => hk I (by simp) o e, s2.at fun o e => hk ax (by simp) o e⟩, o, vs, hk x1 (by simp) o h1, h2⟩
  item := fun i s Q E hi st hQ => by
    obtain ⟨st, o, vs, h1, h2⟩ := st
    refine wpAny_pyNext_list_item st.1 st.2 (x := items[i]) (by simp [hi]) fun h' hit' hs' => ?_
    exact hQ _ h' s.toks (by simp [hi]) ⟨⟨hit', st.2.extBut hs'.extBut hne⟩, o, vs, hs'.extBut x1 o hx h1, h2⟩ fun b o hb e => hs'.extBut b o (fun h => hb (by simp [h])) e
  done := fun s Q E st hQ => by
    obtain ⟨st, o, vs, h1, h2⟩ := st
    exact pyNext_list_end_hot ⟨hh, o, vs, h1, h2⟩ st.1 st.2 (by simp) hx fun h' he' => hQ h' s.toks fun b o hb e => he' b o (fun h => hb (by simp [h])) e
  self := fun _ _ _ _ st hQ => wpAny_pyIter_listiter st.1.1 hQ
/-- any(list of truths) within an except suite -/
theorem call_any_hot {X : Cx} {a : Addr} {oe : Obj} {cls : Value} {d : Option Addr} {pn : List (Addr × Obj)} (hz : L2N.Zn cls d oe) (hf : ∃ vs, oe.data = .fields vs) :
    CallR (X.suite a ((a, oe) :: pn)) (.builtin "any") (rAny X.K) := by
  intro pins s σ H vs us Q I r h
  obtain ⟨b, bs, rfl, hs, q⟩ := h
  obtain ⟨its, rv, hl, _⟩ := I.list hs
  rw [Vals.ref1 r]
  have hb := rv.bls
  obtain ⟨hget, _⟩ := I.pin (a, oe) (List.mem_append.mpr (.inl List.mem_cons_self))
  obtain ⟨fs, hfs⟩ := hf
  have hctx := hz.2.2 fs hfs
  have na : a ≠ s.heap.objs.size := Nat.ne_of_lt (Heap.lt_size hget)
  refine call_any_walk (iter_any hl.isList fun s₂ e2 st hne => ?_)
  subst e2
  refine ⟨_, _, _, _, _, _, _, rfl, walks_hot (A := (X.suite a ((a, oe) :: pn)).A.in1) (x1 := a) rfl _ b hne na its.toArray, ⟨st, oe, fs, Heap.get?_push_of_some _ hget, hfs, hctx⟩, truth_bools hb, fun h' tk hk => ?_⟩
  refine ⟨.bl _, H, I.kept fun c o eo => hk c o (fun hmem => ?_) (Heap.get?_push_of_some _ eo), ?_, q⟩
  · rcases List.mem_cons.mp hmem with e1 | hmem
    · exact absurd (e1 ▸ Heap.lt_size eo) (Nat.lt_irrefl _)
    · cases hmem
  · show Value.bool _ = Value.bool _
    rw [← L2.any_range, hb, List.size_toArray, List.length_map]
theorem passLN {X : Cx} : Passes (L2N.CX X.prog X.w) X E0 := fun _ _ _ _ _ _ _ h => by
  obtain ⟨_, _, _, _, _, _, _, _, _, _, _, _, z⟩ := h
  exact z.elim
theorem takesN0 {X : Cx} : L2N.Takes X (fun _ _ _ _ => False) := fun _ _ x => by
  obtain ⟨_, _, _, _, _, _, _, _, _, _, _, _, _, _, _, _, z⟩ := x
  exact z.elim
section
variable {P : Program} {w : World} {K : PySem.W.Frag} {mg : Str → Option Value} {base : Heap}
/-- a def that may raise -/
theorem okN {x qual : Str} {st : Stmt} {f : Addr} {fd : FuncData} {N ps : List Str} {k : Nat} {sp : Sp} (F : Fun K x qual st f fd) (S : FnScope N ps (defScope st)) (len : ∀ vs H Q E, sp vs H Q E → vs.length = ps.length)
    (hbody : ∀ (cdv : Value) (A : Around) (outer : List Env) (s : Shared) (H : Hp) (vs : List V) (Q : VK) (E : XK), Room k (A.deeper (envOfC qual (defScope st) s.heap.objs.size f cdv)) → sp vs H Q E →
      ∃ t, PSs (cxOf (L2N.CX P w) P w K mg base N qual (defScope st) f cdv A outer s H E) (defBody st) t ∧ t { nx := fun _ H' => Q .non H', rt := Q } (start N vs) H) : FnOk P w K mg base (L2N.CX P w) (k + 1) f fd ps sp := by
  obtain ⟨oc, od, kV, doc, pm, an, cdv, ct, osl, rfl, lk, hcd⟩ := F.ex
  exact fn_of lk hcd S len fun A outer s H vs Q E hr hsp => hbody cdv A outer s H vs Q E hr hsp
end
end Hg
/-! isinstance of a caught error whose class is told by what is known; str * int. -/
namespace Hg
open PySem L2
def rIsEx (K : PySem.W.Frag) (a : Addr) (cls : Value) (d : Option Addr) : List V → Hp → VK → Prop := fun xs H Q => ∃ (D : Addr) (c : V) (cv : Value) (b : Bool), cls = .ref D ∧ d = none ∧ ExcC K D ∧ xs = [.ref a, c] ∧ (∀ u, RelV c u → u = cv) ∧ PySem.W.kitOne K (.ref D) cv = some b ∧ Q (.bl b) H
theorem call_isEx {X : Cx} {a : Addr} {oe : Obj} {cls : Value} {d : Option Addr} {pn : List (Addr × Obj)} (hz : L2N.Zn cls d oe) (hf : ∃ vs, oe.data = .fields vs) :
    CallR (X.suite a ((a, oe) :: pn)) (.builtin "isinstance") (rIsEx X.K a cls d) := by
  intro pins s σ H xs us Q I r h
  obtain ⟨D, c, cv, b, rfl, rfl, C, e1, e2, e3, q⟩ := h
  exact call_isE C hz.zc hf pins s σ H xs us Q I r ⟨c, cv, b, e1, e2, e3, q⟩
theorem kit_mk {K : PySem.W.Frag} {D C : Addr} {b : Bool} (i : PySem.W.isClsIn K C = true) (t : PySem.W.typeIn K (.ref C) = some (.type "type")) (s : PySem.W.subIn K (.ref D) (.ref C) = some b) (d : PySem.W.subIn K (.ref D) (.ref D) = some true) : PySem.W.kitOne K (.ref D) (.ref C) = some b := by
  unfold PySem.W.kitOne
  by_cases h : D = C
  · subst h
    rw [d] at s
    rw [if_pos (by simp)]
    exact s
  · rw [if_neg (by simpa using h)]
    unfold PySem.W.kitCls
    unfold PySem.W.isClsIn at i
    have e : ((PySem.W.clsIn K C).isSome && PySem.W.typeIn K (.ref C) == some (.type "type")) = true := by rw [i, t]; rfl
    show (if ((PySem.W.clsIn K C).isSome && PySem.W.typeIn K (.ref C) == some (.type "type")) = true then PySem.W.subIn K (.ref D) (.ref C) else none) = _
    rw [if_pos e]
    exact s
theorem kit_mkT {K : PySem.W.Frag} {D : Addr} {T : String} {b : Bool} (i : PySem.W.kitMeta T = true) (s : PySem.W.subIn K (.ref D) (.type T) = some b) : PySem.W.kitOne K (.ref D) (.type T) = some b := by
  unfold PySem.W.kitOne
  rw [if_neg (by simp)]
  show (if PySem.W.kitMeta T = true then PySem.W.subIn K (.ref D) (.type T) else none) = _
  rw [if_pos i]
  exact s
/-- text * int -/
def rRepS : R2 := fun x y H Q => ∃ z k, x = .str z ∧ y = .int k ∧ MulOk z k ∧ Q (.str (Txt.mul z k)) H
theorem op_repS {X : Cx} : OpR X (binaryOp .Mult) rRepS := by
  intro pins s σ H x y v u Q I rx ry h
  obtain ⟨z, k, rfl, rfl, hok, q⟩ := h
  obtain ⟨t, rfl⟩ := rx
  obtain ⟨t', rfl⟩ := ry
  exact PySem.SB.mul hok fun t' k => ⟨.str _, H, I.tok k, ⟨t', rfl⟩, q⟩
end Hg
/-! Trees as texts of brackets (40, 41). -/
namespace Hg
open PySem L2
mutual
def txt : Tt → List Nat
  | .mk l => txtL l
def txtL : List Tt → List Nat
  | [] => []
  | x :: l => 40 :: (txt x ++ 41 :: txtL l)
end
theorem txt_mk (l : List Tt) : txt (.mk l) = txtL l := by rw [txt]
theorem txtL_nil : txtL [] = [] := by rw [txtL]
theorem txtL_cons (x : Tt) (l : List Tt) : txtL (x :: l) = 40 :: (txt x ++ 41 :: txtL l) := by rw [txtL]
theorem txtL_append : ∀ l m : List Tt, txtL (l ++ m) = txtL l ++ txtL m
  | [], m => by rw [txtL_nil]; rfl
  | x :: l, m => by rw [List.cons_append, txtL_cons, txtL_cons, txtL_append l m]; simp
def brk (l : List Nat) : Prop := ∀ c, c ∈ l → c = 40 ∨ c = 41
mutual
theorem txt_brk : ∀ t : Tt, brk (txt t)
  | .mk l => by rw [txt]; exact txtL_brk l
theorem txtL_brk : ∀ l : List Tt, brk (txtL l)
  | [] => by rw [txtL]; intro c h; cases h
  | x :: l => by
    rw [txtL]
    intro c h
    rcases List.mem_cons.mp h with e | h
    · exact .inl e
    · rcases List.mem_append.mp h with h | h
      · exact txt_brk x c h
      · rcases List.mem_cons.mp h with e | h
        · exact .inr e
        · exact txtL_brk l c h
end
mutual
theorem txt_len : ∀ t : Tt, (txt t).length + 2 = 2 * knots t
  | .mk l => by rw [txt, knots]; have := txtL_len l; omega
theorem txtL_len : ∀ l : List Tt, (txtL l).length = 2 * knotsL l
  | [] => by rw [txtL, knotsL]; rfl
  | x :: l => by
    rw [txtL, knotsL, List.length_cons, List.length_append, List.length_cons]
    have := txt_len x; have := txtL_len l
    omega
end
mutual
theorem txt_count : ∀ t : Tt, (txt t).count 40 + 1 = knots t
  | .mk l => by rw [txt, knots, txtL_count l]; omega
theorem txtL_count : ∀ l : List Tt, (txtL l).count 40 = knotsL l
  | [] => by rw [txtL, knotsL]; rfl
  | x :: l => by
    rw [txtL, knotsL, List.count_cons_self, List.count_append, List.count_cons_of_ne (by decide), txtL_count l]
    have := txt_count x
    omega
end
mutual
theorem depth_knots : ∀ t : Tt, depth t + 1 ≤ knots t
  | .mk l => by rw [depth, knots]; have := depthL_knots l; omega
theorem depthL_knots : ∀ l : List Tt, depthL l ≤ knotsL l
  | [] => by rw [depthL, knotsL]; exact Nat.le_refl _
  | x :: l => by
    rw [depthL, knotsL]
    have := depth_knots x; have := depthL_knots l
    omega
end
/-! ### reading -/
/-- the open ones, the innermost first -/
abbrev Stk := List (List Tt)
def step1 (st : Stk) (c : Nat) : Option Stk :=
  if c = 40 then some ([] :: st) else match st with
    | b :: p :: r => some ((p ++ [.mk b]) :: r)
    | _ => none
def rdS : Stk → List Nat → Option Stk
  | st, [] => some st
  | st, c :: l => (step1 st c).bind fun s => rdS s l
/-- .. never more than 41 open -/
def rdL : Stk → List Nat → Option Stk
  | st, [] => some st
  | st, c :: l => (step1 st c).bind fun s => if 41 < s.length then none else rdL s l
theorem rdS_cons (st : Stk) (c : Nat) (l : List Nat) : rdS st (c :: l) = (step1 st c).bind fun s => rdS s l := rfl
theorem rdL_cons (st : Stk) (c : Nat) (l : List Nat) : rdL st (c :: l) = (step1 st c).bind fun s => if 41 < s.length then none else rdL s l := rfl
theorem rdL_rdS : ∀ (l : List Nat) (st x : Stk), rdL st l = some x → rdS st l = some x
  | [], st, x, h => h
  | c :: l, st, x, h => by
    rw [rdL_cons] at h
    rw [rdS_cons]
    cases e : step1 st c with
    | none => rw [e] at h; cases h
    | some s =>
      rw [e, Option.bind_some] at h
      rw [Option.bind_some]
      by_cases hl : 41 < s.length
      · rw [if_pos hl] at h; cases h
      · rw [if_neg hl] at h; exact rdL_rdS l s x h
theorem rdL_append : ∀ (l m : List Nat) (st : Stk), rdL st (l ++ m) = (rdL st l).bind fun s => rdL s m
  | [], m, st => rfl
  | c :: l, m, st => by
    rw [List.cons_append, rdL_cons, rdL_cons]
    cases step1 st c with
    | none => rfl
    | some s =>
      rw [Option.bind_some, Option.bind_some]
      by_cases hl : 41 < s.length
      · rw [if_pos hl, if_pos hl]; rfl
      · rw [if_neg hl, if_neg hl]; exact rdL_append l m s
theorem rdS_append : ∀ (l m : List Nat) (st : Stk), rdS st (l ++ m) = (rdS st l).bind fun s => rdS s m
  | [], m, st => rfl
  | c :: l, m, st => by
    rw [List.cons_append, rdS_cons, rdS_cons]
    cases step1 st c with
    | none => rfl
    | some s => rw [Option.bind_some, Option.bind_some]; exact rdS_append l m s
/-- what has been read so far -/
def stT : Stk → List Nat
  | [] => []
  | [s] => txtL s
  | s :: t :: r => stT (t :: r) ++ 40 :: txtL s
theorem stT_two (s t : List Tt) (r : Stk) : stT (s :: t :: r) = stT (t :: r) ++ 40 :: txtL s := rfl
theorem step1_txt {st s : Stk} {c : Nat} (hn : st ≠ []) (hc : c = 40 ∨ c = 41) (h : step1 st c = some s) : s ≠ [] ∧ stT s = stT st ++ [c] := by
  unfold step1 at h
  rcases hc with e | e
  · subst e
    rw [if_pos rfl] at h
    cases h
    cases st with
    | nil => exact absurd rfl hn
    | cons a r => exact ⟨by simp, by rw [stT_two, txtL_nil]⟩
  · subst e
    rw [if_neg (by decide)] at h
    cases st with
    | nil => cases h
    | cons b r =>
      cases r with
      | nil => cases h
      | cons p r =>
        cases h
        refine ⟨by simp, ?_⟩
        have ep : txtL (p ++ [.mk b]) = txtL p ++ (40 :: txtL b ++ [41]) := by
          rw [txtL_append, txtL_cons, txtL_nil, txt_mk]; simp
        cases r with
        | nil =>
          show txtL (p ++ [.mk b]) = stT [b, p] ++ [41]
          rw [stT_two, ep]
          show _ = (txtL p ++ 40 :: txtL b) ++ [41]
          simp
        | cons q r =>
          rw [stT_two, stT_two, stT_two, ep]
          simp
theorem rdS_txt : ∀ (l : List Nat) (st s : Stk), st ≠ [] → brk l → rdS st l = some s → s ≠ [] ∧ stT s = stT st ++ l
  | [], st, s, hn, _, h => by cases h; exact ⟨hn, by simp⟩
  | c :: l, st, s, hn, hb, h => by
    rw [rdS_cons] at h
    cases e : step1 st c with
    | none => rw [e] at h; cases h
    | some s1 =>
      rw [e, Option.bind_some] at h
      obtain ⟨h1, h2⟩ := step1_txt hn (hb c List.mem_cons_self) e
      obtain ⟨h3, h4⟩ := rdS_txt l s1 s h1 (fun d hd => hb d (List.mem_cons_of_mem _ hd)) h
      exact ⟨h3, by rw [h4, h2]; simp⟩
/-- a text that is read is the tree's -/
theorem rdS_is {l : List Nat} {t : List Tt} (hb : brk l) (h : rdS [[]] l = some [t]) : l = txtL t := by
  have := (rdS_txt l _ _ (by simp) hb h).2
  show l = stT [t]
  rw [this]
  show l = txtL [] ++ l
  rw [txtL_nil]; rfl
mutual
theorem rdS_tree : ∀ (t : Tt) (s : List Tt) (st : Stk) (r : List Nat), rdS (s :: st) (40 :: (txt t ++ 41 :: r)) = rdS ((s ++ [t]) :: st) r
  | .mk l, s, st, r => by
    rw [rdS_cons]
    show rdS ([] :: s :: st) (txt (.mk l) ++ 41 :: r) = _
    rw [txt_mk, rdS_trees l [] (s :: st) (41 :: r), List.nil_append]
    rfl
theorem rdS_trees : ∀ (l : List Tt) (s : List Tt) (st : Stk) (r : List Nat), rdS (s :: st) (txtL l ++ r) = rdS ((s ++ l) :: st) r
  | [], s, st, r => by rw [txtL_nil, List.append_nil]; rfl
  | x :: l, s, st, r => by
    have e : txtL (x :: l) ++ r = 40 :: (txt x ++ 41 :: (txtL l ++ r)) := by rw [txtL_cons]; simp
    rw [e, rdS_tree x s st, rdS_trees l, List.append_assoc]
    rfl
end
theorem rdS_txtL (l : List Tt) : rdS [[]] (txtL l) = some [l] := by
  have h := rdS_trees l [] [] []
  rw [List.append_nil] at h
  rw [h]; rfl
/-- how deep the end will be at least -/
def W_ : Stk → Nat
  | [] => 0
  | s :: st => max (st.length + depthL s) (W_ st)
theorem depthL_app1 (l : List Tt) (t : Tt) : depthL (l ++ [t]) = max (depthL l) (depth t + 1) := by
  induction l with
  | nil => rw [List.nil_append, depthL, depthL, depthL]; omega
  | cons x l ih => rw [List.cons_append, depthL, ih, depthL]; omega
theorem step1_W {st s : Stk} {c : Nat} (h : step1 st c = some s) : W_ st ≤ W_ s := by
  unfold step1 at h
  by_cases e : c = 40
  · rw [if_pos e] at h; cases h
    show _ ≤ max _ (W_ st)
    omega
  · rw [if_neg e] at h
    cases st with
    | nil => cases h
    | cons b r =>
      cases r with
      | nil => cases h
      | cons p r =>
        cases h
        show max ((p :: r).length + depthL b) (max (r.length + depthL p) (W_ r)) ≤ max (r.length + depthL (p ++ [.mk b])) (W_ r)
        rw [depthL_app1, depth, List.length_cons]
        omega
theorem rdS_W : ∀ (l : List Nat) (st s : Stk), rdS st l = some s → W_ st ≤ W_ s
  | [], st, s, h => by cases h; exact Nat.le_refl _
  | c :: l, st, s, h => by
    rw [rdS_cons] at h
    cases e : step1 st c with
    | none => rw [e] at h; cases h
    | some s1 =>
      rw [e, Option.bind_some] at h
      exact Nat.le_trans (step1_W e) (rdS_W l s1 s h)
theorem len_W : ∀ st : Stk, st.length ≤ W_ st + 1
  | [] => by simp
  | s :: st => by
    show _ ≤ max (st.length + depthL s) (W_ st) + 1
    rw [List.length_cons]; omega
theorem rdS_rdL : ∀ (l : List Nat) (st : Stk) (t : List Tt), depthL t ≤ 40 → rdS st l = some [t] → rdL st l = some [t]
  | [], st, t, _, h => h
  | c :: l, st, t, hd, h => by
    rw [rdS_cons] at h
    rw [rdL_cons]
    cases e : step1 st c with
    | none => rw [e] at h; cases h
    | some s1 =>
      rw [e, Option.bind_some] at h
      rw [Option.bind_some]
      have h1 := rdS_W l s1 _ h
      have h2 := len_W s1
      have h3 : W_ [t] = max (0 + depthL t) 0 := rfl
      rw [if_neg (by omega)]
      exact rdS_rdL l s1 t hd h
/-! ### texts -/
def mkS (l : List Nat) : Str := ⟨l.toArray⟩
theorem mkS_append (a b : List Nat) : mkS a ++ mkS b = mkS (a ++ b) := by
  show Str.append (mkS a) (mkS b) = _
  unfold Str.append mkS
  simp
theorem mkS_len (a : List Nat) : (mkS a).length = a.length := by unfold mkS Str.length; simp
theorem mkS_inj {a b : List Nat} (h : mkS a = mkS b) : a = b := by
  unfold mkS at h
  injection h with h
  simpa using congrArg Array.toList h
theorem lit40 : Str.ofString "(" = mkS [40] := by decide +kernel
theorem lit41 : Str.ofString ")" = mkS [41] := by decide +kernel
theorem litE : Str.ofString "" = mkS [] := by decide +kernel
theorem litB : Str.ofString "()" = mkS [40, 41] := by decide +kernel
theorem join_nil : ∀ ys : List (List Nat), Txt.join (mkS []) (ys.map mkS) = mkS ys.flatten := by
  intro ys
  unfold Txt.join
  rw [StrLaws.glued_eq_join]
  induction ys with
  | nil => rfl
  | cons y ys ih =>
    cases ys with
    | nil => show mkS y = _; simp
    | cons z ys =>
      show mkS y ++ mkS [] ++ Str.join (mkS []) ((z :: ys).map mkS) = _
      rw [ih, mkS_append, mkS_append]; simp
theorem flatten_txt : ∀ l : List Tt, (l.map fun x => 40 :: (txt x ++ [41])).flatten = txtL l
  | [] => by rw [txtL_nil]; rfl
  | x :: l => by rw [List.map_cons, List.flatten_cons, flatten_txt l, txtL_cons]; simp
theorem strip_brk {l : List Nat} (h : brk l) : Txt.stripChars (mkS l) (mkS [40, 41]) = mkS [] := by
  have g : ∀ c, c ∈ l → (mkS [40, 41]).cps.contains c = true := fun c hc => by
    rcases h c hc with e | e <;> subst e <;> decide +kernel
  have t : ∀ m : List Nat, (∀ c, c ∈ m → (mkS [40, 41]).cps.contains c = true) → m.takeWhile (mkS [40, 41]).cps.contains = m := fun m hm => by
    induction m with
    | nil => rfl
    | cons c m ih => rw [List.takeWhile_cons_of_pos (hm c List.mem_cons_self), ih fun d hd => hm d (List.mem_cons_of_mem _ hd)]
  have e1 : (mkS l).cps.toList = l := by unfold mkS; simp
  unfold Txt.stripChars Txt.stripBy
  have lo : stripLo (mkS [40, 41]).cps.contains true (mkS l) = l.length := by
    unfold stripLo
    rw [if_pos rfl, e1, t l g]
  have hi : stripHi (mkS [40, 41]).cps.contains true (mkS l) l.length = l.length := by
    unfold stripHi
    rw [if_pos rfl, e1, List.drop_length, mkS_len]; rfl
  unfold stripSame stripped
  rw [lo, hi, mkS_len]
  by_cases h0 : l.length = 0
  · have : l = [] := List.length_eq_zero_iff.mp h0
    subst this
    rfl
  · have b0 : (l.length == 0) = false := by simpa using h0
    rw [b0, Bool.false_and, if_neg Bool.false_ne_true]
    show (⟨(mkS l).cps.extract l.length l.length⟩ : Str) = mkS []
    unfold mkS
    simp
end Hg
/-! A list comprehension whose element may raise: the exception leaves it, noted by the def's own frame. -/
namespace Hg
open PySem PySem.Spec PyProof.Rows L2
/-- behind a comprehension's block, the environment of the block known -/
def cpF (M : Model) (A : Around) (E : Value → Shared → Prop) (Q : Value → Shared → Prop) (acc : Value) (ce : Env) : Result → Shared → Prop
  | .ok _, t => ∃ m, t.heap.Ns ce.locals m ∧ ∀ g, Heap.SameBut ce.locals t.heap g → Q acc { t with heap := g }
  | .error x, t => ∃ m, t.heap.Ns ce.locals m ∧ ∀ g, Heap.SameBut ce.locals t.heap g → wpAny M A (passOn "comprehension.variables-let-go" x ce : Sem Value) (fun _ _ => False) E { t with heap := g }
section
variable {M : Model} {A : Around} {E : Value → Shared → Prop} {s : Shared} {env : Env}
theorem comp_frame {e : Expr} {scope : Scope} {pos : Pos} {na fst : Sem Value} {c0 : Comprehension} {cs : List Comprehension} {clo : List (Str × Addr)} {Q : Value → Shared → Prop}
    (h1 : clausesOf e = c0 :: cs) (h2 : ∀ x, foldedSetIterable c0.iter env x = pure x) (h3 : closureFor scope env = pure clo) (h4 : scope.kind = .function) (h5 : ∀ x ∈ scope.names, x.2 = .local → scope.names.lookup x.1 = some .local)
    (h : wpAny M A fst (fun x t1 => wpAny M A (pyIter x) (fun it t2 => wpAny M A na (fun acc t3 => wpAny M A (newFunctionEnv scope env.globals clo [] env.qual none .none (some env)) (fun ce t4 =>
      codeAny M A (.compStart e 0 it acc { ce with scope := relabel scope env }) (cpF M A E Q acc { ce with scope := relabel scope env }) t4) E t3) E t2) E t1) E s) :
    wpAny M A (comprehension e scope env pos na false fst none) Q E s := by
  unfold comprehension; rw [h3, h1]
  refine wpAny_bind (wpAny_mono h (fun x t1 q1 => wpAny_bind (wpAny_standAt (wpAny_bind (wpAny_of_eq (h2 x) (wpAny_bind (wpAny_holding (wpAny_mono q1 (fun it t2 q2 => wpAny_standIf (wpAny_bind (wpAny_mono q2
    (fun acc t3 q3 => wpAny_bind (wpAny_pure (wpAny_bind (wpAny_mono q3 (fun ce t4 q4 => ?_) fun _ _ z => z)))) fun _ _ z => z))) fun _ _ z => z))))))) fun _ _ z => z)
  dsimp only
  have vis : ∀ x ∈ (scope.names.filter fun y => (y.2 == .local || y.2 == .cell) && y.1 != (".0" : Str)).reverse, x.2 = .local → Env.kindOf { ce with scope := relabel scope env } x.1 = some .local :=
    fun x hx hl => lookup_relabel_local (h5 x (List.mem_filter.mp (List.mem_reverse.mp hx)).1 hl)
  refine wpAny_holding (wpAny_bind (wpAny_attempt (wpAny_holding (wpAny_run (codeAny_mono q4 fun r t hr => ?_)))))
  cases r with
  | ok _ => obtain ⟨m, n, hr⟩ := hr; exact wpAny_bind (wpAny_holding (wpAny_comp_letGo (cenv := { ce with scope := relabel scope env }) h4 _ t m vis n fun g _ _ sb => wpAny_pure (hr g sb)))
  | error x => obtain ⟨m, n, hr⟩ := hr; exact wpAny_bind (wpAny_holding (wpAny_comp_letGo (cenv := { ce with scope := relabel scope env }) h4 _ t m vis n fun g _ _ sb => wpAny_mono (hr g sb) (fun _ _ z => z.elim) fun _ _ z => z))
end
theorem frames_to {B h g : Heap} {C : Addr} (k : ∀ b, b ≠ C → g.get? b = h.get? b) : ∀ {l : List Env}, h.FunFrames B l → C ∉ frs l → g.FunFrames (PySem.W.hideAll B [C]) l
  | [], _, _ => trivial
  | env :: l, ⟨a1, ⟨L, o, a2, a3, a4, a5⟩, a6⟩, nC => by
    have nL : L ≠ C := fun z => nC (List.mem_filterMap.mpr ⟨env, List.mem_cons_self, by rw [a2, z]⟩)
    refine ⟨a1, ⟨L, o, a2, ?_, (k L nL).trans a4, a5⟩, frames_to k a6 fun hm => nC ?_⟩
    · cases q : (PySem.W.hideAll B [C]).get? L with
      | none => rfl
      | some o' =>
        have z := PySem.W.of_hideAll _ q
        rw [a3] at z; cases z
    · obtain ⟨e, he, q⟩ := List.mem_filterMap.mp hm
      exact List.mem_filterMap.mpr ⟨e, List.mem_cons_of_mem _ he, q⟩
section
variable {X : Cx} {pins : List (Addr × Obj)} {σ : L2.St} {H : Hp} {s : Shared}
/-- what a call let out stands over a ground of ours -/
theorem ground {u : Value} {s' : Shared} {E : XK} (I : L2.Inv X pins σ H s) (c : L2N.CX X.prog X.w X.stack H s E u s') :
    ∃ (a : Addr) (B G : Heap) (H' : Hp) (cls : Value) (d : Option Addr), u = .ref a ∧ L2.Inv X pins σ H' { s with heap := G, gens := s'.gens, drawn := s'.drawn, toks := s'.toks } ∧ (∀ b o, G.get? b = some o → b ∉ frs X.stack → B.get? b = some o) ∧
      (∀ b o, G.get? b = some o → s'.heap.get? b = some o) ∧ HandSPX.FlyingZ B X.stack a (L2N.Zn cls d) s'.heap ∧ H' a = none ∧ s'.os = s.os ∧ AllBare s'.gens ∧ E cls d H' ∧
      (∀ b o, s.heap.get? b = some o → H b = none → H' b = none) ∧ ∀ b o, s.heap.get? b = some o → H b = none → b ∉ frs X.stack → s'.heap.get? b = some o := by
  obtain ⟨a, B, H', cls, d, rfl, fly, hok, ub, na, os, ag, w⟩ := c
  obtain ⟨G, in1, out1⟩ := restrict s'.heap fun b => (B.get? b).isSome || decide (b ∈ frs X.stack)
  have stB : B.StaysIn s'.heap := fly.1
  have toG : ∀ b o, B.get? b = some o → G.get? b = some o := fun b o e => (in1 b (by simp [e])).trans (stB b o e)
  have ofF : ∀ b, b ∈ frs X.stack → G.get? b = s'.heap.get? b := fun b hb => in1 b (by simp [hb])
  have ofG : ∀ b o, G.get? b = some o → s'.heap.get? b = some o ∧ ((B.get? b).isSome = true ∨ b ∈ frs X.stack) := fun b o e => by
    cases q : ((B.get? b).isSome || decide (b ∈ frs X.stack)) with
    | true => exact ⟨(in1 b q).symm.trans e, by simpa [Bool.or_eq_true] using q⟩
    | false => exact absurd ((out1 b q).symm.trans e) (by simp)
  refine ⟨a, B, G, H', cls, d, rfl, ?_, fun b o e nb => ?_, fun b o e => (ofG b o e).1, fly, na, os, ag, w, ub.free, fun b o e n hb => stB b o (ub.keep b o e n hb)⟩
  · refine I.call (ch := []) ⟨fun b o e n hb _ => toG b o (ub.keep b o e n hb), fun b o e n hb _ => ?_, fun b o e n _ => ub.free b o e n, fun b o e _ => ?_, ub.tups, ub.frzs, ub.tbls⟩ (hok.kept toG) ag (fun _ z => nomatch z)
    · obtain ⟨sl, q⟩ := ub.slot b o e hb; exact ⟨sl, (ofF b hb).trans q⟩
    · by_cases hb : b ∈ frs X.stack
      · obtain ⟨sl, q⟩ := ub.slot b o e hb; exact ⟨_, (ofF b hb).trans q⟩
      · obtain ⟨o', q⟩ := ub.there b o e hb; exact ⟨o', toG b o' q⟩
  · obtain ⟨e', z⟩ := ofG b o e
    rcases z with z | z
    · obtain ⟨o', q⟩ := Option.isSome_iff_exists.mp z
      have e2 := (stB b o' q).symm.trans e'
      cases e2; exact q
    · exact absurd z nb
/-- an exception of the block's element leaves the comprehension -/
theorem leave_blk {W : WX} {E : XK} {s3 : Shared} {H3 : Hp} {fp : List Addr} {ce : Env} {scope : Scope} {pins' : List (Addr × Obj)} {σ' : L2.St} {u : Value} {s' : Shared} {Q E1 : Value → Shared → Prop} {acc : Value} (hs : X.stack = X.env :: X.outer) (hf : X.env.frame = some X.env.locals)
    (tk : L2N.Takes X W) (hE : ∀ c d H', E c d H' → W c d σ H') (I3 : L2.Inv X pins σ H3 s3) (f3 : ∀ b ∈ fp, FpOk X pins H3 b) (cL : ce.locals = s3.heap.objs.size) (cF : ce.frame = X.env.frame)
    (I : L2.Inv (X.blk s3 H3 scope ce fp) pins' σ' H s) (c : L2N.CX X.prog X.w X.stack H s E u s') :
    wpAny (model X.prog X.w) X.A (noteFrame u ce) (fun _ t => cpF (model X.prog X.w) X.A X.xe Q acc ce (.error u) t) E1 s' := by
  have J : L2.Inv X pins σ H s := I3.call' (ch := fp) I.os I.base I.hok I.bare fun b hb => ⟨(f3 b hb).2.2.2.1, (f3 b hb).2.1, (f3 b hb).2.2.2.2.1, (f3 b hb).2.2.2.2.2⟩
  obtain ⟨m, ⟨oC, es, ep, hC, hCd, hCk⟩, _⟩ := I.loc
  have nC : H ce.locals = none := I.free
  rw [cL] at nC
  have hC : s.heap.get? ce.locals = some oC := hC
  rw [cL] at hC
  have okC : FpOk X pins H s3.heap.objs.size := I3.fpOk (Nat.le_refl _) nC
  have nCs : s3.heap.objs.size ∉ frs X.stack := fun z => by
    rw [hs] at z
    obtain ⟨e, he, q⟩ := List.mem_filterMap.mp z
    rcases List.mem_cons.mp he with e1 | he
    · rw [e1, hf] at q; exact okC.2.1 (Option.some.inj q).symm
    · exact okC.2.2.1 (List.mem_filterMap.mpr ⟨e, he, q⟩)
  obtain ⟨a, B, G, H', cls, d, rfl, K, nb, up, fly, na, os, ag, w, fr, kp⟩ := ground J c
  have hC1 := kp _ _ hC nC nCs
  have nC' := fr _ _ hC nC
  have okC' : FpOk X pins H' s3.heap.objs.size := I3.fpOk (Nat.le_refl _) nC'
  generalize s3.heap.objs.size = C at *
  have hfr : X.A.frames = some (X.env :: X.outer) := by rw [I3.ok.frames, hs]
  rw [hs] at fly nCs
  have eN : noteFrame (.ref a) ce = noteFrame (.ref a) X.env := by unfold PySem.noteFrame PySem.frameOf; rw [cF]
  rw [eN]
  refine PXN.looks_onZ L2N.Zn.steady hfr hf fly fun h5 hh up5 => ?_
  obtain ⟨sl, hC5⟩ := up5 _ _ hC1 (by rw [hCd]; exact fun vs z => by cases z)
  refine ⟨m, by rw [cL]; exact ⟨_, es, ep, hC5, hCd, hCk⟩, fun g sb => ?_⟩
  rw [cL] at sb
  obtain ⟨st, hn, ff, oe, vs, T, oT, ts, he, hz, hd, h1, hnT, hTe, hT, hdT, h3⟩ := hh
  have neC : ∀ b o vs, h5.get? b = some o → o.data = .fields vs → b ≠ C := fun b o vs e q z => by
    rw [z, hC5] at e; cases e
    rw [show _ = _ from hCd] at q; cases q
  have hid : ∀ b, B.get? b = none → (PySem.W.hideAll B [C]).get? b = none := fun b q => by
    cases z : (PySem.W.hideAll B [C]).get? b with
    | none => rfl
    | some o => exact absurd ((PySem.W.of_hideAll _ z).symm.trans q) (by simp)
  have off : ∀ {h : Heap} {b o}, (PySem.W.hideAll h [C]).get? b = some o → b ≠ C := fun {h b o} e z => by
    rw [z, PySem.W.hideAll_none [C] (by simp)] at e; cases e
  have held : HandSPX.HeldZ (PySem.W.hideAll B [C]) (X.env :: X.outer) a (L2N.Zn cls d) X.env.locals g :=
    ⟨fun b o e => (sb.2 b (off e)).trans (st b o (PySem.W.of_hideAll _ e)), hid a hn, frames_to sb.2 ff nCs, oe, vs, T, oT, ts, (sb.2 a (neC a oe vs he hd)).trans he, hz, hd, h1, hid T hnT, hTe, (sb.2 T (neC T oT ts hT hdT)).trans hT, hdT, h3⟩
  have upg : Heap.UpToSlots (PySem.W.hideAll G [C]) g := fun b o e nf => by
    obtain ⟨sl, q⟩ := up5 b o (up b o (PySem.W.of_hideAll _ e)) nf
    exact ⟨sl, (sb.2 b (off e)).trans q⟩
  unfold PySem.passOn
  refine wpAny_bind (wpAny_field ((sb.2 a (neC a oe vs he hd)).trans he) hd h1 ?_)
  rw [if_neg (show ¬ ((Value.ref T == Value.none) = true) from by simp), cF, hf]
  have last : wpAny (model X.prog X.w) X.A (setFlight (.ref a) (some X.env.locals)) (fun _ t => wpAny (model X.prog X.w) X.A (throw (.ref a) : Sem Value) (fun _ _ => False) X.xe t) X.xe { s' with heap := g } := by
    refine HandSPX.setFlight_onZ held fun h7 hh7 up7 => wpAny_throw (tk _ _ ?_)
    refine ⟨a, PySem.W.hideAll B [C], { s with heap := PySem.W.hideAll G [C], gens := s'.gens, drawn := s'.drawn, toks := s'.toks }, pins, σ, H', cls, d, rfl, ?_, fun b o e q => ?_, upg.trans up7, .inr (.inr (by rw [hs]; exact hh7)), na, os, ag, hE _ _ _ w⟩
    · obtain ⟨f0, f1, f2, f3, f4, f5⟩ := okC'
      exact K.turned (t' := s'.toks) (fun b o hb e => PySem.W.hideAll_get _ e (by simpa using hb)) f0 f1 f3 f4 f5
    · exact PySem.W.hideAll_get _ (nb b o (PySem.W.of_hideAll _ e) q) (by simpa using off e)
  first | exact wpAny_bind (wpAny_pure (wpAny_bind last)) | exact wpAny_bind last
end
end Hg
namespace Hg
open PySem PySem.Spec PyProof.Rows L2
section
variable {X : Cx}
theorem toTr {pins : List (Addr × Obj)} {σ : L2.St} {H : Hp} {s : Shared} (I : L2.Inv X pins σ H s) (xe : Value → Shared → Prop) : L2.Inv (X.tr X.pn xe) pins σ H s := ⟨I.ok.toTry _ _, I.os, I.bare, I.base, I.loc, I.cell, I.free, I.freeC, I.pin, I.hok, I.len⟩
theorem ofTr {pins : List (Addr × Obj)} {σ : L2.St} {H : Hp} {s : Shared} {xe : Value → Shared → Prop} (I : L2.Inv (X.tr X.pn xe) pins σ H s) : L2.Inv X pins σ H s := ⟨I.ok.ofTry, I.os, I.bare, I.base, I.loc, I.cell, I.free, I.freeC, I.pin, I.hok, I.len⟩
/-- a list comprehension whose element may raise -/
theorem pe_lcX {E : XK} {elt tg iter : Expr} {ifs : List Expr} {scope : Scope} {own : List (Str × Nat)} {pos : Pos} {wi : TI} {g : TG} {tt : TT} {te : TE} (hst : X.stack = X.env :: X.outer) (hfr : X.env.frame = some X.env.locals) (tk : L2N.Takes X fun cls d _ H => E cls d H)
    (hc : X.calm = true) (hN : X.N.Nodup) (hi : PI X tg iter wi) (ok : BlkOk X.N X.env.scope scope own) (hg : ∀ (t : Shared) (H : Hp) (C : Addr) (cl : List (Str × Addr)) (fp : List Addr), PG (X.blk t H scope (compEnvC scope cl C X.env) fp) tg g)
    (ht : ∀ (t : Shared) (H : Hp) (C : Addr) (cl : List (Str × Addr)) (fp : List Addr), PTs (X.blk t H scope (compEnvC scope cl C X.env) fp) ifs tt)
    (he : ∀ (t : Shared) (H : Hp) (C : Addr) (cl : List (Str × Addr)) (fp : List Addr) (xe : Value → Shared → Prop), Passes (L2N.CX X.prog X.w) ((X.blk t H scope (compEnvC scope cl C X.env) fp).tr [] xe) E → PE ((X.blk t H scope (compEnvC scope cl C X.env) fp).tr [] xe) elt te)
    (hs : ∀ x, foldedSetIterable iter X.env x = pure x := by intro _; rfl) : PE X (.ListComp elt [⟨tg, iter, ifs, 0⟩] scope pos) (tLc wi g tt te (own.map (·.2))) := by
  refine ⟨fun pins s σ H Q I h => ?_⟩
  rw [eval_ListComp]
  have cap : ∀ y ∈ scope.names, y.2 = .free → ∃ c, X.env.cells.lookup y.1 = some c := fun y hy e => (ok.free y hy e).elim (fun k => I.ok.has _ (.inl k)) fun k => I.ok.has _ (.inr k)
  refine comp_frame rfl hs (closure_ok cap) ok.kind (fun y hy e => (ok.uniq y hy).trans (congrArg some e)) (thn (hi.run pins s σ H _ I h) fun xv s1 hx => thn hx fun itv s2 h2 => ?_)
  obtain ⟨it, fp, tn, J, H2, rfl, I2, T, st2, f2, q⟩ := h2
  refine wpAny_newObj_type (newEnv_comp ?_) (by show 0 ≤ sizeLine; decide)
  generalize hD : s2.heap.objs.size = D
  obtain ⟨W, ⟨m0, w0⟩, turn⟩ := q D (I2.hok.fresh (Nat.le_of_eq hD))
  generalize hs3 : ({ s2 with heap := s2.heap.push { cls := .type "list", data := .seq ([] : List Value).toArray } } : Shared) = s3
  have h3 : s3.heap = s2.heap.push { cls := .type "list", data := .seq ([] : List Value).toArray } := by rw [← hs3]
  have I3 : L2.Inv X pins σ (upd H2 D (.lst [])) s3 := by
    rw [← hs3]
    exact I2.laid (t' := s2.toks) (fun b o e => Heap.get?_push_of_some _ e) (Nat.le_of_eq hD) ⟨Nat.zero_le _, [], 0, .nil, by rw [← hD]; exact Heap.get?_push_size _ rfl⟩
  have f3 : ∀ b ∈ fp, FpOk X pins (upd H2 D (.lst [])) b ∧ b < s3.heap.objs.size := fun b hb => by
    obtain ⟨o, e, _⟩ := T.obj _ _ st2 b hb
    have lt := Heap.lt_size e
    refine ⟨⟨(upd_ne (by rw [← hD]; exact Nat.ne_of_lt lt)).trans (f2 b hb).1, (f2 b hb).2⟩, ?_⟩
    rw [h3, Heap.size_push]; exact Nat.lt_succ_of_lt lt
  have st3 : tn 0 s3.heap := T.keep _ _ _ st2 fun b _ o e => by rw [h3]; exact Heap.get?_push_of_some _ e
  have I4 := block_start I3 ok hN f3
  have pg := hg s3 (upd H2 D (.lst [])) s3.heap.objs.size (cellsFrom (s3.heap.objs.size + 1) scope.names (cloFrom X.env.cells scope.names [])) fp
  have pt := ht s3 (upd H2 D (.lst [])) s3.heap.objs.size (cellsFrom (s3.heap.objs.size + 1) scope.names (cloFrom X.env.cells scope.names [])) fp
  have pe := he s3 (upd H2 D (.lst [])) s3.heap.objs.size (cellsFrom (s3.heap.objs.size + 1) scope.names (cloFrom X.env.cells scope.names [])) fp
  show codeAny _ _ (.compStart (.ListComp elt [⟨tg, iter, ifs, 0⟩] scope pos) 0 (.ref it) (.ref D) (compEnvC scope (cellsFrom (s3.heap.objs.size + 1) scope.names (cloFrom X.env.cells scope.names [])) s3.heap.objs.size X.env)) (cpF (model X.prog X.w) X.A X.xe _ (.ref D) (compEnvC scope (cellsFrom (s3.heap.objs.size + 1) scope.names (cloFrom X.env.cells scope.names [])) s3.heap.objs.size X.env)) { s3 with heap := pushCells (s3.heap.push { cls := .type "dict", data := .dict #[] }) scope.names }
  generalize hce : compEnvC scope (cellsFrom (s3.heap.objs.size + 1) scope.names (cloFrom X.env.cells scope.names [])) s3.heap.objs.size X.env = ce at I4 pg pt pe ⊢
  have cL : ce.locals = s3.heap.objs.size := by rw [← hce]; rfl
  have cF : ce.frame = X.env.frame := by rw [← hce]; rfl
  generalize upd H2 D (.lst []) = H3 at I3 I4 pg pt pe w0 f3
  generalize hs4 : ({ s3 with heap := pushCells (s3.heap.push { cls := .type "dict", data := .dict #[] }) scope.names } : Shared) = s4 at I4 ⊢
  have st4 : tn 0 s4.heap := T.keep _ _ _ st3 fun b _ o e => by rw [← hs4]; exact pushCells_keeps _ _ _ _ (Heap.get?_push_of_some _ e)
  have stat : ∀ {ρ : L2.St} {G : Hp} {t : Shared}, L2.Inv (X.blk s3 H3 scope ce fp) [] ρ G t → (∀ b ∈ fp, G b = none) → ∀ b ∈ fp, FpOk (X.blk s3 H3 scope ce fp) [] G b := fun {ρ G t} K n b hb =>
    ⟨n b hb, (K.ok.exf b hb).1, K.ok.exfs b hb, .inl hb, (K.ok.exf b hb).2, fun p hp => absurd (show p ∈ ([] : List (Addr × Obj)) ++ [] from hp) (by simp)⟩
  have loop : codeAny (model X.prog X.w) X.A (.compLoop (.ListComp elt [⟨tg, iter, ifs, 0⟩] scope pos) 0 (.ref it) (.ref D) ce) (cpF (model X.prog X.w) X.A X.xe (fun v t => ∃ y G, L2.Inv X pins σ G t ∧ RelV y v ∧ Q y G) (.ref D) ce) s4 := by
    refine compLoop_any (fun n t => ∃ i G, L2.Inv (X.blk s3 H3 scope ce fp) [] (wipe σ (own.map (·.2))) G t ∧ tn i t.heap ∧ (∀ b ∈ fp, G b = none) ∧ W i n G) ?_ m0 ⟨0, H3, I4, st4, fun b hb => (f3 b hb).1.1, w0⟩
    rintro n s5 ⟨i, H5, I5, st5, n5, w5⟩
    rcases turn i n H5 w5 with ⟨stop, qq⟩ | ⟨go, Nx, hNx, step⟩
    · refine thnF (T.done (X.blk s3 H3 scope ce fp) rfl rfl rfl hc i [] s5 _ H5 (fun _ _ => False) I5 (stat I5 n5) st5 stop) fun r s6 ⟨hr, I6⟩ => ?_
      subst hr
      have I7 : L2.Inv X pins σ H5 s6 := I3.call' (ch := fp) I6.os I6.base I6.hok I6.bare fun b hb => ⟨(f3 b hb).1.2.2.2.1, (f3 b hb).1.2.1, (f3 b hb).1.2.2.2.2.1, (f3 b hb).1.2.2.2.2.2⟩
      have nC : H5 ce.locals = none := I6.free
      obtain ⟨m, hn, _⟩ := I6.loc
      rw [cL] at nC
      obtain ⟨f0, f1, f2, f3, f4, f5⟩ := I3.fpOk (Nat.le_refl _) nC
      refine ⟨m, hn, fun g sb => ⟨.ref D, H5, I7.turned (t' := s6.toks) (fun b o hb e => (sb.2 b (by rw [cL]; exact hb)).trans e) f0 f1 f3 f4 f5, rfl, qq⟩⟩
    · refine thnF (T.item (X.blk s3 H3 scope ce fp) rfl rfl rfl hc i [] s5 _ H5 (fun _ _ => False) I5 (stat I5 n5) st5 go) fun r s6 ⟨u, hr, h6⟩ => ?_
      subst hr
      refine thnF h6 fun _ s7 ⟨x, H7, I7, r7, y7, st7, n7⟩ => ?_
      refine thnF (pg.run _ s7 _ H7 x u _ (I7.pinned (stat I7 n7) (T.obj _ _ st7)) r7 (step x H7 y7)) fun _ s8 ⟨σ8, H8, I8, hw8, q8⟩ => ?_
      refine thnF (pt.run _ s8 σ8 H8 _ I8 q8) fun b s9 ⟨H9, I9, q9⟩ => ?_
      have fin : ∀ {t : Shared} {G : Hp}, L2.Inv (X.blk s3 H3 scope ce fp) ([] ++ pinsAt fp s7.heap) σ8 G t → Nx G → ∃ m, m < n ∧ ∃ i G, L2.Inv (X.blk s3 H3 scope ce fp) [] (wipe σ (own.map (·.2))) G t ∧ tn i t.heap ∧ (∀ b ∈ fp, G b = none) ∧ W i m G := fun {t G} K nx => by
        obtain ⟨m', hm, w'⟩ := hNx G nx
        have pin : ∀ b ∈ fp, ∀ o, s7.heap.get? b = some o → t.heap.get? b = some o ∧ G b = none := fun b hb o e =>
          let z := K.pin (b, o) (List.mem_append_right _ (List.mem_append_right _ (mem_pinsAt hb e))); ⟨z.1, z.2.1⟩
        refine ⟨m', hm, i + 1, G, (K.unpinned (pins := [])).weak (by rw [← hw8, wipe_length]) (fun j v e => ?_), T.keep _ _ _ st7 fun b hb o e => (pin b hb o e).1, fun b hb => ?_, w'⟩
        · rw [← hw8] at e; exact (wipe_some e).1
        · obtain ⟨o, e, _⟩ := T.obj _ _ st7 b hb; exact (pin b hb o e).2
      cases b with
      | false =>
        simp only [Bool.false_eq_true, if_false] at q9 ⊢
        exact fin I9 q9
      | true =>
        simp only [if_true] at q9 ⊢
        have pe' := pe (fun u t => ∃ (ps : List (Addr × Obj)) (ρ : L2.St) (G : Hp) (t0 : Shared), L2.Inv (X.blk s3 H3 scope ce fp) ps ρ G t0 ∧ L2N.CX X.prog X.w X.stack G t0 E u t) fun ps ρ G t0 u t K c => ⟨ps, ρ, G, t0, ofTr K, c⟩
        refine wpAny_mono (pe'.run _ s9 σ8 H9 _ (toTr I9 _) q9) (fun z s10 hz => ?_) fun u t hu => ?_
        · obtain ⟨yv, H10, I10, r10, acc, hD10, hz10, nx⟩ := hz
          exact app_ok (X := X.blk s3 H3 scope ce fp) (ofTr I10) hD10 hz10 r10 fun s11 I11 => fin I11 nx
        · obtain ⟨ps, ρ, G, t0, K, c⟩ := hu
          exact leave_blk hst hfr tk (fun _ _ _ h => h) I3 (fun b hb => (f3 b hb).1) cL cF K c
  exact codeAny_compStart_list loop (T.self X.A 0 _ _ _ st4 loop)
end
end Hg
/-! l.count(x) of data of any depth. -/
namespace Hg
open PySem PySem.Spec PyProof.Rows L2
def rCountD (K : PySem.W.Frag) : V → List V → Hp → VK → Prop := fun x xs H Q => ∃ (a : Addr) (y : V) (d : PyData) (ds : List PyData), x = V.ref a ∧ xs = [y] ∧ Dp K H (V.ref a) (.list ds) ∧ Dp K H y d ∧ SeqAt.shaped (.list ds) = true ∧ SeqAt.shaped d = true ∧
  Q (.int ((ds.countP fun z => PyData.eqv z d : Nat) : Int)) H
theorem mt_countD {X : Cx} (hu : X.A.units + 65 < cLine) : MtR X "list.count" (rCountD X.K) := by
  intro pins st σ H x xs v us Q I rx rxs h
  obtain ⟨a, y, d, ds, rfl, rfl, hl, hy, sl, sd, q⟩ := h
  cases rx
  cases rxs with
  | cons ry rt =>
    rename_i uy ut
    cases rt
    obtain ⟨bs, ry1⟩ := Dp.reads I d y uy hy ry
    have lay : PyData.canLayAll0 ds = true := SeqAt.canLay_of_shaped sl
    have room : X.A.units + 1 + min (PyData.depthAll ds) d.depth < cLine := room_in_shaped sd hu
    cases hl with
    | lst hs ha =>
      obtain ⟨its, rv, ⟨⟨cls, dd, data, sls⟩, n, ho, hc, hdn, hdt⟩, hlen⟩ := I.list hs
      simp only at hc hdt
      subst hc hdt
      obtain ⟨as, rall⟩ := Dp.readsAll I ds _ its ha rv
      have emap : its.map (SeqAt.readOf st.heap) = ds := SeqAt.readsAll_map ds its as lay rall
      refine call_meets PySem.F.slot_list_count ⟨_, ho, rfl⟩ PySem.F.entry_list_count (PySem.F.args_list_count_2 _ _)
        (SeqAt.list_countAt a its.toArray n dd sls uy (fun u => PyData.eqv (SeqAt.readOf st.heap u) d)) ⟨ho, SeqAt.items_eqAt (vs := its.toArray) (show ReadsAll st.heap its.toArray.toList ds as from rall) ry1 lay (SeqAt.canLay_of_shaped sd) room, ?_⟩
      have ec : its.toArray.toList.countP (fun u => PyData.eqv (SeqAt.readOf st.heap u) d) = ds.countP fun z => PyData.eqv z d := by
        rw [← emap, List.countP_map]; rfl
      rw [ec]
      exact ⟨.int _, H, I.tok _, ⟨_, rfl⟩, q⟩
end Hg
/-! A call of a local name that holds a def, what it lets out told by the slots. -/
namespace Hg
open PySem PySem.Spec PyProof.Rows L2
def tCallLS (i : Nat) (f : Addr) (sp : Sp) (E : L2.St → XK) (t : TA) : TE := fun σ H Q => σ[i]? = some (some (.ref f)) ∧ t σ H fun vs H1 => sp vs H1 Q (E σ)
theorem pe_callLS {X : Cx} {CX : CXT} {k i : Nat} {f : Addr} {fd : FuncData} {ps : List Str} {sp : Sp} {E : L2.St → XK} {x : Str} {p pos : Pos} {e : Expr} {es : List Expr} {t : TA} (F : FnOk X.prog X.w X.K X.mg X.base CX k f fd ps sp) (hr : Room k X.A) (hN : X.N[i]? = some x) (hv : Vis X.env.scope x)
    (hk : PySem.W.keepIn X.K (.ref f) = true) (hb : Binds X.K fd ps []) (hx : ∀ σ, PassesAt CX X σ (E σ)) (ha : PA X (e :: es) t) (h1 : (x == ("__debug__" : Str)) = false := by decide) (h2 : (x == ("__classdict__" : Str)) = false := by decide)
    (h3 : starEach (e :: es) X.env = (false, eval e X.env) :: starEach es X.env := by rfl) (h4 : (backTo pos (starEach es X.env)).any (·.1) = false := by rfl) : PE X (.Call (.Name x p) (e :: es) [] pos) (tCallLS i f sp E t) := by
  refine ⟨fun pins s σ H Q I ⟨hs, ht⟩ => ?_⟩
  refine wpAny_Call_Name_kw (thn ((pe_var (pos := p) hN hv h1 h2).run pins s σ H (fun v G => v = .ref f ∧ G = H) I ⟨.ref f, hs, rfl, rfl⟩) fun u s1 ⟨v, G, I1, r1, q1⟩ => ?_)
  obtain ⟨rfl, rfl⟩ := q1
  cases r1
  exact PySem.W.callWith_K (h₀ := X.base) I.ok.mod.kin hk (thn (ha.run pos pins s1 σ _ _ I1 ht) fun us s2 ⟨vs, H2, I2, r, q⟩ => ⟨I2.kIn, run_fnS F hr hb (hx σ) I2 r q⟩) h3 h4
/-- a method's call within an except suite: the facts' frame named -/
theorem pe_bmK {X : Cx} (K : PySem.W.Frag) {o e : Expr} {es : List Expr} {to : TE} {t : TA} {name : Str} {apos cpos : Pos} {T id : String} {r : V → List V → Hp → VK → Prop} (hK : X.K = K) (h1 : PlainAttrs T) (h2 : Slot T name id) (h3 : typeOf (.builtin id) = pure (.type "method_descriptor"))
    (hm : MtR X id r) (ho : PE X o to) (ha : PA X (e :: es) t) (k1 : attributeBase o name X.env (eval o X.env) = eval o X.env := by rfl)
    (k2 : ((backTo cpos (starEach (e :: es) X.env)).all (fun x => !x.1) && (backToKw cpos (keywordEach [] X.env)).all (fun x => x.1.isSome) && decide ((e :: es).length + ([] : List Keyword).length + (if ([] : List Keyword).isEmpty then 0 else 1) < 30)) = true := by rfl)
    (k3 : (apos.endLine == cpos.line) = true := by rfl) (k4 : starEach (e :: es) X.env = (false, eval e X.env) :: starEach es X.env := by rfl) (k5 : (backTo cpos (starEach es X.env)).any (·.1) = false := by rfl) : PE X (.Call (.Attribute o name apos) (e :: es) [] cpos) (tBM K T r to t) := by
  subst hK
  exact pe_bm h1 h2 h3 hm ho ha k1 k2 k3 k4 k5
end Hg
set_option Elab.async false
set_option linter.all false
set_option maxRecDepth 100000
set_option maxHeartbeats 4000000
namespace Hg
open PySem L2
def top (i : Nat) : Stmt := PySem.Challenge.pw_headsgrow_k03_whole_bases.main.body.getD i (.Pass ⟨0, 0, 0, 0⟩)
abbrev s_is_tree : Stmt := top 12
theorem sc_is_tree : FnScope ["thing", "depth", "left", "branch"] ["thing", "depth", "left"] (defScope s_is_tree) := ⟨rfl, rfl, rfl, by decide +kernel, rfl, by decide +kernel, by decide +kernel⟩
abbrev s_asked_tree : Stmt := top 13
theorem sc_asked_tree : FnScope ["tree"] ["tree"] (defScope s_asked_tree) := ⟨rfl, rfl, rfl, by decide +kernel, rfl, by decide +kernel, by decide +kernel⟩
abbrev s_compared : Stmt := top 14
theorem sc_compared : FnScope ["one", "other", "mine", "theirs", "found"] ["one", "other"] (defScope s_compared) := ⟨rfl, rfl, rfl, by decide +kernel, rfl, by decide +kernel, by decide +kernel⟩
abbrev s_merged : Stmt := top 15
theorem sc_merged : FnScope ["one", "other", "found", "near", "far"] ["one", "other"] (defScope s_merged) := ⟨rfl, rfl, rfl, by decide +kernel, rfl, by decide +kernel, by decide +kernel⟩
abbrev s_copied : Stmt := top 16
theorem sc_copied : FnScope ["tree", "branch"] ["tree"] (defScope s_copied) := ⟨rfl, rfl, rfl, by decide +kernel, rfl, by decide +kernel, by decide +kernel⟩
abbrev s_told_of : Stmt := top 17
theorem sc_told_of : FnScope ["tree", "found", "branch"] ["tree"] (defScope s_told_of) := ⟨rfl, rfl, rfl, by decide +kernel, rfl, by decide +kernel, by decide +kernel⟩
abbrev s_compare : Stmt := top 18
theorem sc_compare : FnScope ["one", "other", "found"] ["one", "other"] (defScope s_compare) := ⟨rfl, rfl, rfl, by decide +kernel, rfl, by decide +kernel, by decide +kernel⟩
abbrev s_is_number : Stmt := top 20
theorem sc_is_number : FnScope ["thing"] ["thing"] (defScope s_is_number) := ⟨rfl, rfl, rfl, by decide +kernel, rfl, by decide +kernel, by decide +kernel⟩
abbrev s_asked_base : Stmt := top 23
theorem sc_asked_base : FnScope ["base"] ["base"] (defScope s_asked_base) := ⟨rfl, rfl, rfl, by decide +kernel, rfl, by decide +kernel, by decide +kernel⟩
abbrev s_written_of : Stmt := top 24
theorem sc_written_of : FnScope ["number", "base", "left", "found", "power", "many", "time"] ["number", "base", "left"] (defScope s_written_of) := ⟨rfl, rfl, rfl, by decide +kernel, rfl, by decide +kernel, by decide +kernel⟩
abbrev s_written : Stmt := top 25
theorem sc_written : FnScope ["number", "base"] ["number", "base"] (defScope s_written) := ⟨rfl, rfl, rfl, by decide +kernel, rfl, by decide +kernel, by decide +kernel⟩
abbrev s_can_write : Stmt := top 26
theorem sc_can_write : FnScope ["tree", "base", "at", "branch"] ["tree", "base"] (defScope s_can_write) := ⟨rfl, rfl, rfl, by decide +kernel, rfl, by decide +kernel, by decide +kernel⟩
abbrev s_value_of : Stmt := top 27
theorem sc_value_of : FnScope ["tree", "base", "found", "branch", "exponent", "power", "time"] ["tree", "base"] (defScope s_value_of) := ⟨rfl, rfl, rfl, by decide +kernel, rfl, by decide +kernel, by decide +kernel⟩
abbrev s_number_of : Stmt := top 28
theorem sc_number_of : FnScope ["tree", "base", "found"] ["tree", "base"] (defScope s_number_of) := ⟨rfl, rfl, rfl, by decide +kernel, rfl, by decide +kernel, by decide +kernel⟩
abbrev s_stepped : Stmt := top 29
theorem sc_stepped : FnScope ["number", "base", "tree", "found"] ["number", "base"] (defScope s_stepped) := ⟨rfl, rfl, rfl, by decide +kernel, rfl, by decide +kernel, by decide +kernel⟩
abbrev s__law_number : Stmt := top 31
theorem sc__law_number : FnScope ["_law_cell", "_law_at", "_law_whole", "_law_mixed", "_law_more_here"] ["_law_cell", "_law_at", "_law_whole"] (defScope s__law_number) := ⟨rfl, rfl, rfl, by decide +kernel, rfl, by decide +kernel, by decide +kernel⟩
abbrev s__law_tree : Stmt := top 32
theorem sc__law_tree : FnScope ["_law_script", "_law_most", "_law_by", "_law_cells", "_law_tree_here", "_law_own_here", "_law_at", "_law_cell", "_law_number_here", "_law_kind", "_law_spot", "_law_branch"] ["_law_script", "_law_most", "_law_by"] (defScope s__law_tree) := ⟨rfl, rfl, rfl, by decide +kernel, rfl, by decide +kernel, by decide +kernel⟩
abbrev s__law_more : Stmt := top 34
theorem sc__law_more : FnScope ["_law_one", "_law_other", "_law_at", "_law_found"] ["_law_one", "_law_other"] (defScope s__law_more) := ⟨rfl, rfl, rfl, by decide +kernel, rfl, by decide +kernel, by decide +kernel⟩
abbrev s__law_told : Stmt := top 35
theorem sc__law_told : FnScope ["_law_tree_here", "_law_found", "_law_branch", "_law_at"] ["_law_tree_here"] (defScope s__law_told) := ⟨rfl, rfl, rfl, by decide +kernel, rfl, by decide +kernel, by decide +kernel⟩
abbrev s__law_is_tree : Stmt := top 36
theorem sc__law_is_tree : FnScope ["_law_found", "_law_branch"] ["_law_found"] (defScope s__law_is_tree) := ⟨rfl, rfl, rfl, by decide +kernel, rfl, by decide +kernel, by decide +kernel⟩
abbrev s__law_knots : Stmt := top 37
theorem sc__law_knots : FnScope ["_law_tree_here", "_law_branch"] ["_law_tree_here"] (defScope s__law_knots) := ⟨rfl, rfl, rfl, by decide +kernel, rfl, by decide +kernel, by decide +kernel⟩
abbrev s__law_own : Stmt := top 38
theorem sc__law_own : FnScope ["_law_tree_here", "_law_own_here", "_law_branch"] ["_law_tree_here", "_law_own_here"] (defScope s__law_own) := ⟨rfl, rfl, rfl, by decide +kernel, rfl, by decide +kernel, by decide +kernel⟩
abbrev s__law_spoilt : Stmt := top 39
theorem sc__law_spoilt : FnScope ["_law_tree_here", "_law_own_here", "_law_sizes", "_law_knot", "_law_size"] ["_law_tree_here"] (defScope s__law_spoilt) := ⟨rfl, rfl, rfl, by decide +kernel, rfl, by decide +kernel, by decide +kernel⟩
abbrev s__law_written : Stmt := top 40
theorem sc__law_written : FnScope ["_law_number_here", "_law_base", "_law_found", "_law_power", "_law_time"] ["_law_number_here", "_law_base"] (defScope s__law_written) := ⟨rfl, rfl, rfl, by decide +kernel, rfl, by decide +kernel, by decide +kernel⟩
abbrev s__law_value : Stmt := top 41
theorem sc__law_value : FnScope ["_law_tree_here", "_law_base", "_law_found", "_law_branch", "_law_exponent", "_law_power", "_law_time"] ["_law_tree_here", "_law_base"] (defScope s__law_value) := ⟨rfl, rfl, rfl, by decide +kernel, rfl, by decide +kernel, by decide +kernel⟩
abbrev s__law_alike : Stmt := top 42
theorem sc__law_alike : FnScope ["_law_tree_here", "_law_most", "_law_branch"] ["_law_tree_here"] (defScope s__law_alike) := ⟨rfl, rfl, rfl, by decide +kernel, rfl, by decide +kernel, by decide +kernel⟩
abbrev s__law_great : Stmt := top 43
theorem sc__law_great : FnScope ["_law_ask", "_law_one", "_law_base", "error", "_law_others", "_law_kinds"] ["_law_ask", "_law_one", "_law_base"] (defScope s__law_great) := ⟨rfl, rfl, rfl, by decide +kernel, rfl, by decide +kernel, by decide +kernel⟩
abbrev s__law_number_right : Stmt := top 44
theorem sc__law_number_right : FnScope ["_law_number_here", "_law_base", "_law_due", "_law_found", "_law_again", "_law_much", "_law_after"] ["_law_number_here", "_law_base"] (defScope s__law_number_right) := ⟨rfl, rfl, rfl, by decide +kernel, rfl, by decide +kernel, by decide +kernel⟩
abbrev s__law_tree_right : Stmt := top 45
theorem sc__law_tree_right : FnScope ["_law_tree_here", "_law_base", "_law_much", "_law_found"] ["_law_tree_here", "_law_base"] (defScope s__law_tree_right) := ⟨rfl, rfl, rfl, by decide +kernel, rfl, by decide +kernel, by decide +kernel⟩
abbrev s_law : Stmt := top 46
theorem sc_law : FnScope ["_law_script", "_law_whole", "_law_cells", "_law_at", "_law_cell", "_law_number_here", "_law_base", "_law_most", "_law_tree_here"] ["_law_script"] (defScope s_law) := ⟨rfl, rfl, rfl, by decide +kernel, rfl, by decide +kernel, by decide +kernel⟩
structure Txt (K : PySem.W.Frag) (mg : Str → Option Value) where
  a_is_tree : Addr
  d_is_tree : FuncData
  F_is_tree : Fun K "is_tree" "is_tree" s_is_tree a_is_tree d_is_tree
  b_is_tree : Binds K d_is_tree ["thing", "depth", "left"] []
  m_is_tree : mg "is_tree" = some (.ref a_is_tree)
  k_is_tree : PySem.W.keepIn K (.ref a_is_tree) = true
  a_asked_tree : Addr
  d_asked_tree : FuncData
  F_asked_tree : Fun K "asked_tree" "asked_tree" s_asked_tree a_asked_tree d_asked_tree
  b_asked_tree : Binds K d_asked_tree ["tree"] []
  m_asked_tree : mg "asked_tree" = some (.ref a_asked_tree)
  k_asked_tree : PySem.W.keepIn K (.ref a_asked_tree) = true
  a_compared : Addr
  d_compared : FuncData
  F_compared : Fun K "compared" "compared" s_compared a_compared d_compared
  b_compared : Binds K d_compared ["one", "other"] []
  m_compared : mg "compared" = some (.ref a_compared)
  k_compared : PySem.W.keepIn K (.ref a_compared) = true
  a_merged : Addr
  d_merged : FuncData
  F_merged : Fun K "merged" "merged" s_merged a_merged d_merged
  b_merged : Binds K d_merged ["one", "other"] []
  m_merged : mg "merged" = some (.ref a_merged)
  k_merged : PySem.W.keepIn K (.ref a_merged) = true
  a_copied : Addr
  d_copied : FuncData
  F_copied : Fun K "copied" "copied" s_copied a_copied d_copied
  b_copied : Binds K d_copied ["tree"] []
  m_copied : mg "copied" = some (.ref a_copied)
  k_copied : PySem.W.keepIn K (.ref a_copied) = true
  a_told_of : Addr
  d_told_of : FuncData
  F_told_of : Fun K "told_of" "told_of" s_told_of a_told_of d_told_of
  b_told_of : Binds K d_told_of ["tree"] []
  m_told_of : mg "told_of" = some (.ref a_told_of)
  k_told_of : PySem.W.keepIn K (.ref a_told_of) = true
  a_compare : Addr
  d_compare : FuncData
  F_compare : Fun K "compare" "compare" s_compare a_compare d_compare
  b_compare : Binds K d_compare ["one", "other"] []
  m_compare : mg "compare" = some (.ref a_compare)
  k_compare : PySem.W.keepIn K (.ref a_compare) = true
  a_is_number : Addr
  d_is_number : FuncData
  F_is_number : Fun K "is_number" "is_number" s_is_number a_is_number d_is_number
  b_is_number : Binds K d_is_number ["thing"] []
  m_is_number : mg "is_number" = some (.ref a_is_number)
  k_is_number : PySem.W.keepIn K (.ref a_is_number) = true
  a_asked_base : Addr
  d_asked_base : FuncData
  F_asked_base : Fun K "asked_base" "asked_base" s_asked_base a_asked_base d_asked_base
  b_asked_base : Binds K d_asked_base ["base"] []
  m_asked_base : mg "asked_base" = some (.ref a_asked_base)
  k_asked_base : PySem.W.keepIn K (.ref a_asked_base) = true
  a_written_of : Addr
  d_written_of : FuncData
  F_written_of : Fun K "written_of" "written_of" s_written_of a_written_of d_written_of
  b_written_of : Binds K d_written_of ["number", "base", "left"] []
  m_written_of : mg "written_of" = some (.ref a_written_of)
  k_written_of : PySem.W.keepIn K (.ref a_written_of) = true
  a_written : Addr
  d_written : FuncData
  F_written : Fun K "written" "written" s_written a_written d_written
  b_written : Binds K d_written ["number", "base"] []
  m_written : mg "written" = some (.ref a_written)
  k_written : PySem.W.keepIn K (.ref a_written) = true
  a_can_write : Addr
  d_can_write : FuncData
  F_can_write : Fun K "can_write" "can_write" s_can_write a_can_write d_can_write
  b_can_write : Binds K d_can_write ["tree", "base"] []
  m_can_write : mg "can_write" = some (.ref a_can_write)
  k_can_write : PySem.W.keepIn K (.ref a_can_write) = true
  a_value_of : Addr
  d_value_of : FuncData
  F_value_of : Fun K "value_of" "value_of" s_value_of a_value_of d_value_of
  b_value_of : Binds K d_value_of ["tree", "base"] []
  m_value_of : mg "value_of" = some (.ref a_value_of)
  k_value_of : PySem.W.keepIn K (.ref a_value_of) = true
  a_number_of : Addr
  d_number_of : FuncData
  F_number_of : Fun K "number_of" "number_of" s_number_of a_number_of d_number_of
  b_number_of : Binds K d_number_of ["tree", "base"] []
  m_number_of : mg "number_of" = some (.ref a_number_of)
  k_number_of : PySem.W.keepIn K (.ref a_number_of) = true
  a_stepped : Addr
  d_stepped : FuncData
  F_stepped : Fun K "stepped" "stepped" s_stepped a_stepped d_stepped
  b_stepped : Binds K d_stepped ["number", "base"] []
  m_stepped : mg "stepped" = some (.ref a_stepped)
  k_stepped : PySem.W.keepIn K (.ref a_stepped) = true
  a__law_number : Addr
  d__law_number : FuncData
  F__law_number : Fun K "_law_number" "_law_number" s__law_number a__law_number d__law_number
  b__law_number : Binds K d__law_number ["_law_cell", "_law_at", "_law_whole"] []
  m__law_number : mg "_law_number" = some (.ref a__law_number)
  k__law_number : PySem.W.keepIn K (.ref a__law_number) = true
  a__law_tree : Addr
  d__law_tree : FuncData
  F__law_tree : Fun K "_law_tree" "_law_tree" s__law_tree a__law_tree d__law_tree
  b__law_tree : Binds K d__law_tree ["_law_script", "_law_most", "_law_by"] []
  m__law_tree : mg "_law_tree" = some (.ref a__law_tree)
  k__law_tree : PySem.W.keepIn K (.ref a__law_tree) = true
  a__law_more : Addr
  d__law_more : FuncData
  F__law_more : Fun K "_law_more" "_law_more" s__law_more a__law_more d__law_more
  b__law_more : Binds K d__law_more ["_law_one", "_law_other"] []
  m__law_more : mg "_law_more" = some (.ref a__law_more)
  k__law_more : PySem.W.keepIn K (.ref a__law_more) = true
  a__law_told : Addr
  d__law_told : FuncData
  F__law_told : Fun K "_law_told" "_law_told" s__law_told a__law_told d__law_told
  b__law_told : Binds K d__law_told ["_law_tree_here"] []
  m__law_told : mg "_law_told" = some (.ref a__law_told)
  k__law_told : PySem.W.keepIn K (.ref a__law_told) = true
  a__law_is_tree : Addr
  d__law_is_tree : FuncData
  F__law_is_tree : Fun K "_law_is_tree" "_law_is_tree" s__law_is_tree a__law_is_tree d__law_is_tree
  b__law_is_tree : Binds K d__law_is_tree ["_law_found"] []
  m__law_is_tree : mg "_law_is_tree" = some (.ref a__law_is_tree)
  k__law_is_tree : PySem.W.keepIn K (.ref a__law_is_tree) = true
  a__law_knots : Addr
  d__law_knots : FuncData
  F__law_knots : Fun K "_law_knots" "_law_knots" s__law_knots a__law_knots d__law_knots
  b__law_knots : Binds K d__law_knots ["_law_tree_here"] []
  m__law_knots : mg "_law_knots" = some (.ref a__law_knots)
  k__law_knots : PySem.W.keepIn K (.ref a__law_knots) = true
  a__law_own : Addr
  d__law_own : FuncData
  F__law_own : Fun K "_law_own" "_law_own" s__law_own a__law_own d__law_own
  b__law_own : Binds K d__law_own ["_law_tree_here", "_law_own_here"] []
  m__law_own : mg "_law_own" = some (.ref a__law_own)
  k__law_own : PySem.W.keepIn K (.ref a__law_own) = true
  a__law_spoilt : Addr
  d__law_spoilt : FuncData
  F__law_spoilt : Fun K "_law_spoilt" "_law_spoilt" s__law_spoilt a__law_spoilt d__law_spoilt
  b__law_spoilt : Binds K d__law_spoilt ["_law_tree_here"] []
  m__law_spoilt : mg "_law_spoilt" = some (.ref a__law_spoilt)
  k__law_spoilt : PySem.W.keepIn K (.ref a__law_spoilt) = true
  a__law_written : Addr
  d__law_written : FuncData
  F__law_written : Fun K "_law_written" "_law_written" s__law_written a__law_written d__law_written
  b__law_written : Binds K d__law_written ["_law_number_here", "_law_base"] []
  m__law_written : mg "_law_written" = some (.ref a__law_written)
  k__law_written : PySem.W.keepIn K (.ref a__law_written) = true
  a__law_value : Addr
  d__law_value : FuncData
  F__law_value : Fun K "_law_value" "_law_value" s__law_value a__law_value d__law_value
  b__law_value : Binds K d__law_value ["_law_tree_here", "_law_base"] []
  m__law_value : mg "_law_value" = some (.ref a__law_value)
  k__law_value : PySem.W.keepIn K (.ref a__law_value) = true
  a__law_alike : Addr
  d__law_alike : FuncData
  F__law_alike : Fun K "_law_alike" "_law_alike" s__law_alike a__law_alike d__law_alike
  b__law_alike : Binds K d__law_alike ["_law_tree_here"] []
  m__law_alike : mg "_law_alike" = some (.ref a__law_alike)
  k__law_alike : PySem.W.keepIn K (.ref a__law_alike) = true
  a__law_great : Addr
  d__law_great : FuncData
  F__law_great : Fun K "_law_great" "_law_great" s__law_great a__law_great d__law_great
  b__law_great : Binds K d__law_great ["_law_ask", "_law_one", "_law_base"] []
  m__law_great : mg "_law_great" = some (.ref a__law_great)
  k__law_great : PySem.W.keepIn K (.ref a__law_great) = true
  a__law_number_right : Addr
  d__law_number_right : FuncData
  F__law_number_right : Fun K "_law_number_right" "_law_number_right" s__law_number_right a__law_number_right d__law_number_right
  b__law_number_right : Binds K d__law_number_right ["_law_number_here", "_law_base"] []
  m__law_number_right : mg "_law_number_right" = some (.ref a__law_number_right)
  k__law_number_right : PySem.W.keepIn K (.ref a__law_number_right) = true
  a__law_tree_right : Addr
  d__law_tree_right : FuncData
  F__law_tree_right : Fun K "_law_tree_right" "_law_tree_right" s__law_tree_right a__law_tree_right d__law_tree_right
  b__law_tree_right : Binds K d__law_tree_right ["_law_tree_here", "_law_base"] []
  m__law_tree_right : mg "_law_tree_right" = some (.ref a__law_tree_right)
  k__law_tree_right : PySem.W.keepIn K (.ref a__law_tree_right) = true
  a_law : Addr
  d_law : FuncData
  F_law : Fun K "law" "law" s_law a_law d_law
  b_law : Binds K d_law ["_law_script"] []
  m_law : mg "law" = some (.ref a_law)
  k_law : PySem.W.keepIn K (.ref a_law) = true
  z_len : mg "len" = none
  z_list : mg "list" = none
  z_range : mg "range" = none
  z_zip : mg "zip" = none
  z_enumerate : mg "enumerate" = none
  z_min : mg "min" = none
  z_max : mg "max" = none
  z_sum : mg "sum" = none
  z_all : mg "all" = none
  z_any : mg "any" = none
  z_isinstance : mg "isinstance" = none
  z_int : mg "int" = none
  z_bool : mg "bool" = none
  t_MOST : Tok
  c_MOST : mg "MOST" = some (.int 300 t_MOST)
  t_DEEPEST : Tok
  c_DEEPEST : mg "DEEPEST" = some (.int 40 t_DEEPEST)
  t_GREATEST : Tok
  c_GREATEST : mg "GREATEST" = some (.int 2582249878086908589655919172003011874329705792829223512830659356540647622016841194629645353280137831435903171972747493376 t_GREATEST)
  A_HeadError : Addr
  g_HeadError : mg "HeadError" = some (.ref A_HeadError)
  k_HeadError : PySem.W.keepIn K (.ref A_HeadError) = true
  x_HeadError : PySem.W.excIn K A_HeadError [.type "ValueError", .type "Exception", .type "BaseException", .type "object"] "ValueError.__new__" = true
  sb_HeadError : PySem.W.subIn K (.ref A_HeadError) (.type "BaseException") = some true
  tt_HeadError : PySem.W.typeIn K (.ref A_HeadError) = some (.type "type")
  A_BadTree : Addr
  g_BadTree : mg "BadTree" = some (.ref A_BadTree)
  k_BadTree : PySem.W.keepIn K (.ref A_BadTree) = true
  x_BadTree : PySem.W.excIn K A_BadTree [.type "ValueError", .type "Exception", .type "BaseException", .type "object"] "ValueError.__new__" = true
  sb_BadTree : PySem.W.subIn K (.ref A_BadTree) (.type "BaseException") = some true
  tt_BadTree : PySem.W.typeIn K (.ref A_BadTree) = some (.type "type")
  A_BadWay : Addr
  g_BadWay : mg "BadWay" = some (.ref A_BadWay)
  k_BadWay : PySem.W.keepIn K (.ref A_BadWay) = true
  x_BadWay : PySem.W.excIn K A_BadWay [.type "ValueError", .type "Exception", .type "BaseException", .type "object"] "ValueError.__new__" = true
  sb_BadWay : PySem.W.subIn K (.ref A_BadWay) (.type "BaseException") = some true
  tt_BadWay : PySem.W.typeIn K (.ref A_BadWay) = some (.type "type")
  A_BadTimes : Addr
  g_BadTimes : mg "BadTimes" = some (.ref A_BadTimes)
  k_BadTimes : PySem.W.keepIn K (.ref A_BadTimes) = true
  x_BadTimes : PySem.W.excIn K A_BadTimes [.type "ValueError", .type "Exception", .type "BaseException", .type "object"] "ValueError.__new__" = true
  sb_BadTimes : PySem.W.subIn K (.ref A_BadTimes) (.type "BaseException") = some true
  tt_BadTimes : PySem.W.typeIn K (.ref A_BadTimes) = some (.type "type")
  A_BadNumber : Addr
  g_BadNumber : mg "BadNumber" = some (.ref A_BadNumber)
  k_BadNumber : PySem.W.keepIn K (.ref A_BadNumber) = true
  x_BadNumber : PySem.W.excIn K A_BadNumber [.type "ValueError", .type "Exception", .type "BaseException", .type "object"] "ValueError.__new__" = true
  sb_BadNumber : PySem.W.subIn K (.ref A_BadNumber) (.type "BaseException") = some true
  tt_BadNumber : PySem.W.typeIn K (.ref A_BadNumber) = some (.type "type")
  A_BadBase : Addr
  g_BadBase : mg "BadBase" = some (.ref A_BadBase)
  k_BadBase : PySem.W.keepIn K (.ref A_BadBase) = true
  x_BadBase : PySem.W.excIn K A_BadBase [.type "ValueError", .type "Exception", .type "BaseException", .type "object"] "ValueError.__new__" = true
  sb_BadBase : PySem.W.subIn K (.ref A_BadBase) (.type "BaseException") = some true
  tt_BadBase : PySem.W.typeIn K (.ref A_BadBase) = some (.type "type")
  A_BadText : Addr
  g_BadText : mg "BadText" = some (.ref A_BadText)
  k_BadText : PySem.W.keepIn K (.ref A_BadText) = true
  x_BadText : PySem.W.excIn K A_BadText [.type "ValueError", .type "Exception", .type "BaseException", .type "object"] "ValueError.__new__" = true
  sb_BadText : PySem.W.subIn K (.ref A_BadText) (.type "BaseException") = some true
  tt_BadText : PySem.W.typeIn K (.ref A_BadText) = some (.type "type")
  A_TooGreat : Addr
  g_TooGreat : mg "TooGreat" = some (.ref A_TooGreat)
  k_TooGreat : PySem.W.keepIn K (.ref A_TooGreat) = true
  x_TooGreat : PySem.W.excIn K A_TooGreat [.type "ValueError", .type "Exception", .type "BaseException", .type "object"] "ValueError.__new__" = true
  sb_TooGreat : PySem.W.subIn K (.ref A_TooGreat) (.type "BaseException") = some true
  tt_TooGreat : PySem.W.typeIn K (.ref A_TooGreat) = some (.type "type")
  hd_HeadError : PySem.W.hasDictIn K A_HeadError = true
  ex_BadTree : ExcC K A_BadTree
  su_BadTree : PySem.W.subIn K (.ref A_BadTree) (.ref A_HeadError) = some true
  kt_BadTree_BadNumber : PySem.W.kitOne K (.ref A_BadTree) (.ref A_BadNumber) = some false
  kt_BadTree_BadText : PySem.W.kitOne K (.ref A_BadTree) (.ref A_BadText) = some false
  kt_BadTree_BadTimes : PySem.W.kitOne K (.ref A_BadTree) (.ref A_BadTimes) = some false
  kt_BadTree_TooGreat : PySem.W.kitOne K (.ref A_BadTree) (.ref A_TooGreat) = some false
  kt_BadTree_BadBase : PySem.W.kitOne K (.ref A_BadTree) (.ref A_BadBase) = some false
  kt_BadTree_BadTree : PySem.W.kitOne K (.ref A_BadTree) (.ref A_BadTree) = some true
  kt_BadTree_BadWay : PySem.W.kitOne K (.ref A_BadTree) (.ref A_BadWay) = some false
  ex_BadBase : ExcC K A_BadBase
  su_BadBase : PySem.W.subIn K (.ref A_BadBase) (.ref A_HeadError) = some true
  kt_BadBase_BadNumber : PySem.W.kitOne K (.ref A_BadBase) (.ref A_BadNumber) = some false
  kt_BadBase_BadText : PySem.W.kitOne K (.ref A_BadBase) (.ref A_BadText) = some false
  kt_BadBase_BadTimes : PySem.W.kitOne K (.ref A_BadBase) (.ref A_BadTimes) = some false
  kt_BadBase_TooGreat : PySem.W.kitOne K (.ref A_BadBase) (.ref A_TooGreat) = some false
  kt_BadBase_BadBase : PySem.W.kitOne K (.ref A_BadBase) (.ref A_BadBase) = some true
  kt_BadBase_BadTree : PySem.W.kitOne K (.ref A_BadBase) (.ref A_BadTree) = some false
  kt_BadBase_BadWay : PySem.W.kitOne K (.ref A_BadBase) (.ref A_BadWay) = some false
  ex_TooGreat : ExcC K A_TooGreat
  su_TooGreat : PySem.W.subIn K (.ref A_TooGreat) (.ref A_HeadError) = some true
  kt_TooGreat_BadNumber : PySem.W.kitOne K (.ref A_TooGreat) (.ref A_BadNumber) = some false
  kt_TooGreat_BadText : PySem.W.kitOne K (.ref A_TooGreat) (.ref A_BadText) = some false
  kt_TooGreat_BadTimes : PySem.W.kitOne K (.ref A_TooGreat) (.ref A_BadTimes) = some false
  kt_TooGreat_TooGreat : PySem.W.kitOne K (.ref A_TooGreat) (.ref A_TooGreat) = some true
  kt_TooGreat_BadBase : PySem.W.kitOne K (.ref A_TooGreat) (.ref A_BadBase) = some false
  kt_TooGreat_BadTree : PySem.W.kitOne K (.ref A_TooGreat) (.ref A_BadTree) = some false
  kt_TooGreat_BadWay : PySem.W.kitOne K (.ref A_TooGreat) (.ref A_BadWay) = some false
  ex_BadNumber : ExcC K A_BadNumber
  su_BadNumber : PySem.W.subIn K (.ref A_BadNumber) (.ref A_HeadError) = some true
  kt_BadNumber_BadNumber : PySem.W.kitOne K (.ref A_BadNumber) (.ref A_BadNumber) = some true
  kt_BadNumber_BadText : PySem.W.kitOne K (.ref A_BadNumber) (.ref A_BadText) = some false
  kt_BadNumber_BadTimes : PySem.W.kitOne K (.ref A_BadNumber) (.ref A_BadTimes) = some false
  kt_BadNumber_TooGreat : PySem.W.kitOne K (.ref A_BadNumber) (.ref A_TooGreat) = some false
  kt_BadNumber_BadBase : PySem.W.kitOne K (.ref A_BadNumber) (.ref A_BadBase) = some false
  kt_BadNumber_BadTree : PySem.W.kitOne K (.ref A_BadNumber) (.ref A_BadTree) = some false
  kt_BadNumber_BadWay : PySem.W.kitOne K (.ref A_BadNumber) (.ref A_BadWay) = some false
section
variable {P : Program} {w : World} {K : PySem.W.Frag} {mg : Str → Option Value} {base : Heap}
/-! ### copied -/
def spCopied (n : Nat) : Sp := fun vs H Q _ => ∃ (v : V) (t : Tt), vs = [v] ∧ TreeAt H v t ∧ fit t ∧ depth t < n ∧ ∀ H' r, New H H' r t → Q r H'
theorem depthL_le : ∀ {l : List Tt} {x : Tt}, x ∈ l → depth x + 1 ≤ depthL l
  | y :: l, x, h => by
    rw [depthL]
    rcases List.mem_cons.mp h with e | h
    · rw [e]; omega
    · have := depthL_le h; omega
theorem depth_bs {l : List Tt} {x : Tt} {n : Nat} (h : depth (.mk l) < n + 1) (hx : x ∈ l) : depth x < n := by
  rw [depth] at h
  have := depthL_le hx
  omega
theorem none_left {CX : CXT} {k : Nat} {f : Addr} {fd : FuncData} {ps : List Str} {sp : Sp} (no : ∀ vs H Q E, ¬ sp vs H Q E) : FnOk P w K mg base CX k f fd ps sp :=
  ⟨fun vs H Q E h => absurd h (no vs H Q E), fun A outer s H args us vs Q E _ _ _ _ h => absurd h (no vs H Q E)⟩
theorem take_more {α : Type} : ∀ {l : List α} {i : Nat} {x : α}, l[i]? = some x → l.take (i + 1) = l.take i ++ [x]
  | [], i, x, h => by simp at h
  | a :: l, 0, x, h => by
    have e : a = x := Option.some.inj (by simpa using h)
    subst e
    rfl
  | a :: l, i + 1, x, h => by
    have ih := take_more (l := l) (i := i) (x := x) (by simpa using h)
    rw [List.take_succ_cons, ih, List.take_succ_cons, List.cons_append]
theorem ok_copied (T : Txt K mg) : ∀ n, FnOk P w K mg base CX0 n T.a_copied T.d_copied ["tree"] (spCopied n)
  | 0 => none_left fun vs H Q E ⟨v, t, _, _, _, h, _⟩ => by omega
  | n + 1 => by
    have G_copied := ok_copied T n
    refine T.F_copied.ok sc_copied (fun vs H Q E h => ?_) (fun cdv A outer s H vs Q E hr h => ?_)
    · obtain ⟨v, t, rfl, _⟩ := h; rfl
    obtain ⟨v, ⟨bs⟩, rfl, ht, hf, hd, q⟩ := h
    have R_copied : Room n _ := hr
    rw [treeAt_mk] at ht
    obtain ⟨a, xs, rfl, ha, hbs⟩ := ht
    refine ⟨_, (pss_one (ps_ret (pe_lc (own := [("branch", 1)]) (g := gName 1) (tt := tYes) rfl sc_copied.nd (pi_list (pv 0)) (blkOk_by (own := [("branch", 1)]) (N := ["tree", "branch"]) (sc := defScope s_copied) (by decide +kernel)) (fun _ _ _ _ _ => (pg_name (i := 1) sc_copied.nd rfl (Or.inl rfl))) (fun _ _ _ _ _ => pts_nil) (fun _ _ _ _ _ => (pe_call G_copied R_copied rfl T.m_copied T.k_copied T.b_copied .nil pass0 (pa_cons (pv 1) pa_nil)))))), ?_⟩
    refine ⟨_, rfl, a, rfl, ⟨xs, SqL.of ha⟩, fun D nD => ?_⟩
    refine lc_list (K := K) (a := a) (xs := xs) (fun i H' => Grow H H' D (bs.take i)) (Grow.start nD) (fun i H' _ g => SqL.of (g.same _ _ ha)) (fun i x H' hx g => ?_) (fun H' g => ?_)
    · obtain ⟨b, hb, hxb⟩ := hbs.get hx
      have mb := List.mem_of_getElem? hb
      refine ⟨rfl, ?_⟩
      refine ⟨_, rfl, x, b, rfl, TreeAt.same g.same b hxb, fit_bs hf mb, depth_bs hd mb, fun H2 r nw => ?_⟩
      obtain ⟨acc, h1, h2, h3⟩ := g.more nw
      refine ⟨acc, h1, ?_, ?_⟩
      · rw [h2, List.length_take]
        exact lim_line (Nat.le_trans (Nat.min_le_right _ _) (fit_len hf))
      · rw [take_more hb]; exact h3
    · rw [hbs.len, List.take_length] at g
      exact q _ _ g.done
end
section
variable {P : Program} {w : World} {K : PySem.W.Frag} {mg : Str → Option Value} {base : Heap}
/-! ### compared -/
theorem drop_get {α : Type} {l : List α} {i : Nat} {x : α} (h : l[i]? = some x) : l.drop i = x :: l.drop (i + 1) := by
  obtain ⟨hi, e⟩ := List.getElem?_eq_some_iff.mp h
  rw [← e]
  exact List.drop_eq_getElem_cons hi
def spCompared (n : Nat) : Sp := fun vs H Q _ => ∃ (v u : V) (t s : Tt), vs = [v, u] ∧ TreeAt H v t ∧ TreeAt H u s ∧ depth t < n ∧ ∀ H', Same H H' → Q (.int (cmp t s)) H'
theorem cmpL_end : ∀ {i : Nat} {bs cs : List Tt}, i = min bs.length cs.length → cmpL (bs.drop i) (cs.drop i) = (bs.length : Int) - cs.length
  | 0, [], cs, _ => by rw [List.drop_zero, List.drop_zero, cmpL_nil]; simp
  | 0, x :: a, [], _ => by rw [List.drop_zero, List.drop_zero, cmpL_nil_r]; simp
  | 0, x :: a, y :: b, h => by simp only [List.length_cons] at h; omega
  | i + 1, [], cs, h => by simp at h
  | i + 1, x :: a, [], h => by simp at h
  | i + 1, x :: a, y :: b, h => by
    have ih := cmpL_end (i := i) (bs := a) (cs := b) (by simp only [List.length_cons] at h; omega)
    rw [List.drop_succ_cons, List.drop_succ_cons, ih, List.length_cons, List.length_cons]
    omega
theorem same_tup {H H' : Hp} {Tp : Addr} {o : HO} (s : Same H H') (h : H' Tp = none) : Same H (upd H' Tp o) := s.trans (same_new h o)
theorem ok_compared (T : Txt K mg) : ∀ n, FnOk P w K mg base CX0 n T.a_compared T.d_compared ["one", "other"] (spCompared n)
  | 0 => none_left fun vs H Q E ⟨v, u, t, s, _, _, _, h, _⟩ => by omega
  | n + 1 => by
    have G_compared := ok_compared T n
    refine T.F_compared.ok sc_compared (fun vs H Q E h => ?_) (fun cdv A outer s H vs Q E hr h => ?_)
    · obtain ⟨v, u, t, s, rfl, _⟩ := h; rfl
    obtain ⟨v, u, ⟨bs⟩, ⟨cs⟩, rfl, ht, hu, hd, q⟩ := h
    have R_compared : Room n _ := hr
    rw [treeAt_mk] at ht hu
    obtain ⟨a, xs, rfl, ha, hbs⟩ := ht
    obtain ⟨b, ys, rfl, hb, hcs⟩ := hu
    rw [cmp_mk] at q
    refine ⟨_, (pss_cons (ps_for PassesOwn.never rfl (pi_zip (by rfl) T.z_zip (pa_cons (pv 0) (pa_cons (pv 1) pa_nil))) (pg_tup rfl (pgs_cons (pg_name (i := 2) sc_compared.nd rfl (Or.inl rfl)) (pgs_cons (pg_name (i := 3) sc_compared.nd rfl (Or.inl rfl)) pgs_nil))) (pss_cons (ps_set (i := 4) sc_compared.nd rfl (Or.inl rfl) (pe_call G_compared R_compared rfl T.m_compared T.k_compared T.b_compared .nil pass0 (pa_cons (pv 2) (pa_cons (pv 3) pa_nil))))
        (pss_one (ps_if (pt_cmpR op_ne (pv 4) pe_int (nomark _)) (pss_one (ps_ret (pv 4))) pss_nil))))
      (pss_one (ps_ret (pe_op op_sub (pe_callB (r := rLenS K) call_len_seqK rfl T.z_len PySem.boot_len (pa_cons (pv 0) pa_nil)) (pe_callB (r := rLenS K) call_len_seqK rfl T.z_len PySem.boot_len (pa_cons (pv 1) pa_nil)))))), ?_⟩
    refine ⟨_, rfl, _, rfl, a, b, xs, ys, rfl, SqL.of ha, SqL.of hb, ?_⟩
    refine for_it (walk_zip rfl) (fun i σ H' => Same H H' ∧ cmpL bs cs = cmpL (bs.drop i) (cs.drop i) ∧ ∃ m th f, σ = [some (.ref a), some (.ref b), m, th, f]) ⟨Same.refl H, by simp, none, none, none, rfl⟩ (fun i σ H' _ p => ⟨SqL.of (p.1 _ _ ha), SqL.of (p.1 _ _ hb)⟩) ?_ ?_
    · rintro i x σ H1 H2 hi ⟨s1, e1, m, th, f, rfl⟩ ⟨Tp, x, y, rfl, nT, rfl, hx, hy⟩
      obtain ⟨t1, ht1, hxt⟩ := hbs.get hx
      obtain ⟨t2, ht2, hyt⟩ := hcs.get hy
      have s2 : Same H (upd H1 Tp (.tup [x, y])) := same_tup s1 nT
      refine ⟨Tp, [x, y], rfl, SqT.of upd_same, rfl, x, [y], rfl, y, [], rfl, rfl, ?_⟩
      refine ⟨_, rfl, _, rfl, x, y, t1, t2, rfl, TreeAt.same s2 _ hxt, TreeAt.same s2 _ hyt, depth_bs hd (List.mem_of_getElem? ht1), fun H3 s3 => ?_⟩
      rw [drop_get ht1, drop_get ht2, cmpL_cons] at e1
      refine ⟨_, rfl, rfl, _, rfl, ?_⟩
      refine ite2 (fun c => ?_) (fun c => ?_)
      · have c' : cmp t1 t2 ≠ 0 := fun z => by simp [z] at c
        rw [if_pos c'] at e1
        exact ⟨_, rfl, by rw [← e1]; exact q _ (s2.trans s3)⟩
      · have c' : ¬ cmp t1 t2 ≠ 0 := fun z => c (by simp [z])
        rw [if_neg c'] at e1
        exact ⟨s2.trans s3, e1, _, _, _, rfl⟩
    · rintro σ H1 ⟨s1, e1, m, th, f, rfl⟩
      refine ⟨_, rfl, a, _, rfl, .inl (SqL.of (s1 _ _ ha)), _, rfl, b, _, rfl, .inl (SqL.of (s1 _ _ hb)), _, _, rfl, rfl, ?_⟩
      rw [hbs.len, hcs.len] at e1
      show Q (.int ((xs.length : Int) - (ys.length : Int))) H1
      rw [hbs.len, hcs.len, ← cmpL_end rfl, ← e1]
      exact q _ s1
/-! ### merged -/
def spMerged (n : Nat) : Sp := fun vs H Q _ => ∃ (v u : V) (l m : List Tt), vs = [v, u] ∧ TreeAt H v (.mk l) ∧ TreeAt H u (.mk m) ∧ fitL l ∧ fitL m ∧ l.length + m.length ≤ lim ∧ (∀ x, x ∈ l → depth x < n) ∧ (∀ x, x ∈ m → depth x < n) ∧
  ∀ H' r, New H H' r (.mk (merge l m)) → Q r H'
theorem at_ix {xs : List V} {i : Nat} {x : V} (h : xs[i]? = some x) : atI xs (i : Int) = some x := atI_nat h
theorem merge_len (l m : List Tt) : (merge l m).length = l.length + m.length := by
  rw [(merge_perm l m).length_eq, List.length_append]
theorem merge_stepL {l m : List Tt} {i j : Nat} {x : Tt} (hx : l[i]? = some x) (h : j = m.length ∨ ∃ y, m[j]? = some y ∧ 0 ≤ cmp x y) : merge (l.drop i) (m.drop j) = x :: merge (l.drop (i + 1)) (m.drop j) := by
  rw [drop_get hx]
  rcases h with e | ⟨y, hy, c⟩
  · rw [e, List.drop_length, merge_nil_r, merge_nil_r]
  · rw [drop_get hy]
    conv => lhs; unfold merge
    rw [if_pos c]
theorem merge_stepR {l m : List Tt} {i j : Nat} {y : Tt} (hy : m[j]? = some y) (h : i = l.length ∨ ∃ x, l[i]? = some x ∧ cmp x y < 0) : merge (l.drop i) (m.drop j) = y :: merge (l.drop i) (m.drop (j + 1)) := by
  rcases h with e | ⟨x, hx, c⟩
  · rw [e, List.drop_length, drop_get hy]; simp [merge]
  · rw [drop_get hx, drop_get hy]
    conv => lhs; unfold merge
    rw [if_neg (by omega)]
theorem ok_merged (T : Txt K mg) (n : Nat) : FnOk P w K mg base CX0 (n + 1) T.a_merged T.d_merged ["one", "other"] (spMerged n) := by
  have G_compared := ok_compared (P := P) (w := w) (base := base) T n
  have G_copied := ok_copied (P := P) (w := w) (base := base) T n
  refine T.F_merged.ok sc_merged (fun vs H Q E h => ?_) (fun cdv A outer s H vs Q E hr h => ?_)
  · obtain ⟨v, u, l, m, rfl, _⟩ := h; rfl
  obtain ⟨v, u, l, m, rfl, ht, hu, fl, fm, hlen, dl, dm, q⟩ := h
  have R_compared : Room n _ := hr
  have R_copied : Room n _ := hr
  rw [treeAt_mk] at ht hu
  obtain ⟨a, xs, rfl, ha, hbs⟩ := ht
  obtain ⟨b, ys, rfl, hb, hcs⟩ := hu
  have el := hbs.len
  have em := hcs.len
  refine ⟨_, (pss_cons (ps_set (i := 2) sc_merged.nd rfl (Or.inl rfl) (pe_lst pa_nil))
      (pss_cons (ps_set (i := 3) sc_merged.nd rfl (Or.inl rfl) pe_int)
      (pss_cons (ps_set (i := 4) sc_merged.nd rfl (Or.inl rfl) pe_int)
      (pss_cons (ps_while PassesOwn.never (PW.pt (pw_or (pt_cmpR op_lt (pv 3) (pe_callB (r := rLenS K) call_len_seqK rfl T.z_len PySem.boot_len (pa_cons (pv 0) pa_nil)) (nomark _)) (pw_or1 (pt_cmpR op_lt (pv 4) (pe_callB (r := rLenS K) call_len_seqK rfl T.z_len PySem.boot_len (pa_cons (pv 1) pa_nil)) (nomark _))))) (pss_one (ps_if (PW.pt (pw_or (pt_cmpR op_eq (pv 4) (pe_callB (r := rLenS K) call_len_seqK rfl T.z_len PySem.boot_len (pa_cons (pv 1) pa_nil)) (nomark _)) (pw_or1 (PW.pt (pw_and (pt_cmpR op_lt (pv 3) (pe_callB (r := rLenS K) call_len_seqK rfl T.z_len PySem.boot_len (pa_cons (pv 0) pa_nil)) (nomark _)) (pw_and1 (pt_cmpR op_ge (pe_call G_compared R_compared rfl T.m_compared T.k_compared T.b_compared .nil pass0 (pa_cons (pe_ix (r := rIxL K) ix_list (pv 0) (pv 3) (fun _ _ => rfl)) (pa_cons (pe_ix (r := rIxL K) ix_list (pv 1) (pv 4) (fun _ _ => rfl)) pa_nil))) pe_int (nomark _)))))))) (pss_cons (ps_expr (pe_bm PySem.F.plainAttrs_list PySem.F.slot_list_append PySem.F.type_list_append mt_append (pv 2) (pa_cons (pe_call G_copied R_copied rfl T.m_copied T.k_copied T.b_copied .nil pass0 (pa_cons (pe_ix (r := rIxL K) ix_list (pv 0) (pv 3) (fun _ _ => rfl)) pa_nil)) pa_nil)))
          (pss_one (ps_set (i := 3) sc_merged.nd rfl (Or.inl rfl) (pe_op op_add (pv 3) pe_int)))) (pss_cons (ps_expr (pe_bm PySem.F.plainAttrs_list PySem.F.slot_list_append PySem.F.type_list_append mt_append (pv 2) (pa_cons (pe_call G_copied R_copied rfl T.m_copied T.k_copied T.b_copied .nil pass0 (pa_cons (pe_ix (r := rIxL K) ix_list (pv 1) (pv 4) (fun _ _ => rfl)) pa_nil)) pa_nil)))
          (pss_one (ps_set (i := 4) sc_merged.nd rfl (Or.inl rfl) (pe_op op_add (pv 4) pe_int)))))))
      (pss_one (ps_ret (pv 2))))))), ?_⟩
  refine ⟨(by show 0 ≤ sizeLine; decide), fun D nD => ?_⟩
  refine ⟨fun k σ H' => ∃ (i j : Nat) (ts : List Tt), σ = [some (.ref a), some (.ref b), some (.ref D), some (.int i), some (.int j)] ∧ k + i + j = l.length + m.length ∧ i ≤ l.length ∧ j ≤ m.length ∧ Grow H H' D ts ∧ merge l m = ts ++ merge (l.drop i) (m.drop j),
    ⟨l.length + m.length, 0, 0, [], rfl, rfl, Nat.zero_le _, Nat.zero_le _, Grow.start nD, rfl⟩, ?_⟩
  rintro k σ H1 ⟨i, j, ts, rfl, hk, hi, hj, g, e⟩
  have ha1 := g.same _ _ ha
  have hb1 := g.same _ _ hb
  have tl : ts.length + (l.length - i) + (m.length - j) = l.length + m.length := by
    have := congrArg List.length e
    rw [List.length_append, merge_len, merge_len, List.length_drop, List.length_drop] at this
    omega
  have goL : ∀ {x : Tt}, l[i]? = some x → ∃ xv, xs[i]? = some xv ∧ ∀ H2, Same H1 H2 → TreeAt H2 xv x ∧ H2 D = H1 D ∧ ∀ H3 r, New H2 H3 r x → ∃ acc, H3 D = some (.lst acc) ∧ acc.length < sizeLine ∧ Grow H (upd H3 D (.lst (acc ++ [r]))) D (ts ++ [x]) := fun {x} hx => by
    obtain ⟨xv, h1, h2⟩ := hbs.get' hx
    refine ⟨xv, h1, fun H2 s2 => ⟨TreeAt.same (g.same.trans s2) _ h2, ?_, fun H3 r nw => ?_⟩⟩
    · obtain ⟨acc, k1, _⟩ := g.at_
      rw [k1]; exact s2 _ _ k1
    obtain ⟨acc, k1, k2, k3⟩ := (g.step s2).more nw
    exact ⟨acc, k1, lim_line (by have := (List.getElem?_eq_some_iff.mp hx).1; omega), k3⟩
  have goR : ∀ {x : Tt}, m[j]? = some x → ∃ xv, ys[j]? = some xv ∧ ∀ H2, Same H1 H2 → TreeAt H2 xv x ∧ H2 D = H1 D ∧ ∀ H3 r, New H2 H3 r x → ∃ acc, H3 D = some (.lst acc) ∧ acc.length < sizeLine ∧ Grow H (upd H3 D (.lst (acc ++ [r]))) D (ts ++ [x]) := fun {x} hx => by
    obtain ⟨xv, h1, h2⟩ := hcs.get' hx
    refine ⟨xv, h1, fun H2 s2 => ⟨TreeAt.same (g.same.trans s2) _ h2, ?_, fun H3 r nw => ?_⟩⟩
    · obtain ⟨acc, k1, _⟩ := g.at_
      rw [k1]; exact s2 _ _ k1
    obtain ⟨acc, k1, k2, k3⟩ := (g.step s2).more nw
    exact ⟨acc, k1, lim_line (by have := (List.getElem?_eq_some_iff.mp hx).1; omega), k3⟩
  obtain ⟨acc0, hD1, _⟩ := g.at_
  -- near < len(one) or far < len(other)
  refine cut_t (fun b H2 => b = decide (i < l.length ∨ j < m.length) ∧ H2 = H1) (fun Q' hQ' => ?_) ?_
  · refine ⟨_, rfl, _, rfl, a, xs, rfl, .inl (SqL.of ha1), _, _, rfl, rfl, _, rfl, ?_⟩
    refine ite2 (fun c => ?_) (fun c => ?_)
    · refine hQ' _ _ ⟨?_, rfl⟩
      have c' : (i : Int) < (xs.length : Nat) := of_decide_eq_true c
      exact (decide_eq_true (by omega)).symm
    · have c' : ¬ (i : Int) < (xs.length : Nat) := of_decide_eq_false (Bool.eq_false_iff.mpr c)
      refine ⟨_, rfl, _, rfl, b, ys, rfl, .inl (SqL.of hb1), _, _, rfl, rfl, _, rfl, hQ' _ _ ⟨?_, rfl⟩⟩
      refine decide_eq_decide.mpr ?_
      omega
  rintro b2 H2 ⟨rfl, rfl⟩
  refine ite2 (fun c => ?_) (fun c => ?_)
  · have c' := of_decide_eq_true c
    refine ⟨fun σ' H' => ∃ m', m' < k ∧ ∃ (i j : Nat) (ts : List Tt), σ' = [some (.ref a), some (.ref b), some (.ref D), some (.int i), some (.int j)] ∧ m' + i + j = l.length + m.length ∧ i ≤ l.length ∧ j ≤ m.length ∧ Grow H H' D ts ∧ merge l m = ts ++ merge (l.drop i) (m.drop j), fun _ _ h => h, ?_⟩
    -- which one
    refine cut_if (fun b H3 => Same H2 H3 ∧ ((b = true ∧ ∃ x, l[i]? = some x ∧ merge (l.drop i) (m.drop j) = x :: merge (l.drop (i + 1)) (m.drop j)) ∨ (b = false ∧ ∃ x, m[j]? = some x ∧ merge (l.drop i) (m.drop j) = x :: merge (l.drop i) (m.drop (j + 1))))) (fun Q' hQ' => ?_) ?_
    · refine ⟨_, rfl, _, rfl, b, ys, rfl, .inl (SqL.of hb1), rfl, _, rfl, ?_⟩
      refine ite2 (fun c1 => ?_) (fun c1 => ?_)
      · have e1 : (V.int (j : Int)) = V.int ((ys.length : Nat) : Int) := of_decide_eq_true c1
        injection e1 with e1
        have hl : i < l.length := by omega
        exact hQ' _ _ ⟨Same.refl _, .inl ⟨rfl, _, List.getElem?_eq_getElem hl, merge_stepL (List.getElem?_eq_getElem hl) (.inl (by omega))⟩⟩
      · have e1 : ¬ (V.int (j : Int)) = V.int ((ys.length : Nat) : Int) := of_decide_eq_false (Bool.eq_false_iff.mpr c1)
        have hj2 : j < m.length := by
          have : ¬ j = ys.length := fun z => e1 (by rw [z])
          omega
        refine ⟨_, rfl, _, rfl, a, xs, rfl, .inl (SqL.of ha1), _, _, rfl, rfl, _, rfl, ?_⟩
        refine ite2 (fun c2 => ?_) (fun c2 => ?_)
        · have c3 : (i : Int) < ((xs.length : Nat) : Int) := of_decide_eq_true c2
          have hl : i < l.length := by omega
          obtain ⟨xv, hxv, htx⟩ := hbs.get' (List.getElem?_eq_getElem hl)
          obtain ⟨yv, hyv, hty⟩ := hcs.get' (List.getElem?_eq_getElem hj2)
          refine ⟨_, rfl, _, rfl, a, xs, _, _, rfl, rfl, SqL.of ha1, atI_nat hxv, _, rfl, _, rfl, b, ys, _, _, rfl, rfl, SqL.of hb1, atI_nat hyv, xv, yv, l[i], m[j], rfl, TreeAt.same g.same _ htx, TreeAt.same g.same _ hty, dl _ (List.getElem_mem hl), fun H3 s3 => ?_⟩
          refine ⟨_, _, rfl, rfl, _, rfl, ?_⟩
          by_cases cc : 0 ≤ cmp l[i] m[j]
          · exact hQ' _ _ ⟨s3, .inl ⟨decide_eq_true cc, _, List.getElem?_eq_getElem hl, merge_stepL (List.getElem?_eq_getElem hl) (.inr ⟨_, List.getElem?_eq_getElem hj2, cc⟩)⟩⟩
          · exact hQ' _ _ ⟨s3, .inr ⟨decide_eq_false cc, _, List.getElem?_eq_getElem hj2, merge_stepR (List.getElem?_eq_getElem hj2) (.inr ⟨_, List.getElem?_eq_getElem hl, by omega⟩)⟩⟩
        · have c3 : ¬ (i : Int) < ((xs.length : Nat) : Int) := of_decide_eq_false (Bool.eq_false_iff.mpr c2)
          exact hQ' _ _ ⟨Same.refl _, .inr ⟨rfl, _, List.getElem?_eq_getElem hj2, merge_stepR (List.getElem?_eq_getElem hj2) (.inl (by omega))⟩⟩
    · rintro b3 H3 ⟨s3, ⟨rfl, x, hx, hm⟩ | ⟨rfl, x, hx, hm⟩⟩
      · obtain ⟨xv, hxv, go⟩ := goL hx
        obtain ⟨htx, hD3, gr⟩ := go H3 s3
        refine iteT ⟨_, rfl, .inl ⟨rfl, _, SqL.of (hD3.trans hD1)⟩, _, rfl, _, rfl, a, xs, _, _, rfl, rfl, SqL.of (s3 _ _ ha1), atI_nat hxv, xv, x, rfl, htx, fitL_iff.mp fl _ (List.mem_of_getElem? hx), dl _ (List.mem_of_getElem? hx), fun H4 r nw => ?_⟩
        obtain ⟨acc, k1, k2, k3⟩ := gr H4 r nw
        refine ⟨D, acc, r, rfl, rfl, k1, k2, _, rfl, _, _, rfl, rfl, k - 1, ?_⟩
        have := (List.getElem?_eq_some_iff.mp hx).1
        refine ⟨by omega, i + 1, j, ts ++ [x], ?_, by omega, by omega, by omega, k3, by rw [e, hm]; simp⟩
        show [_, _, _, some (V.int ((i : Int) + 1)), _] = _
        congr 1
      · obtain ⟨xv, hxv, go⟩ := goR hx
        obtain ⟨htx, hD3, gr⟩ := go H3 s3
        refine iteF ⟨_, rfl, .inl ⟨rfl, _, SqL.of (hD3.trans hD1)⟩, _, rfl, _, rfl, b, ys, _, _, rfl, rfl, SqL.of (s3 _ _ hb1), atI_nat hxv, xv, x, rfl, htx, fitL_iff.mp fm _ (List.mem_of_getElem? hx), dm _ (List.mem_of_getElem? hx), fun H4 r nw => ?_⟩
        obtain ⟨acc, k1, k2, k3⟩ := gr H4 r nw
        refine ⟨D, acc, r, rfl, rfl, k1, k2, _, rfl, _, _, rfl, rfl, k - 1, ?_⟩
        have := (List.getElem?_eq_some_iff.mp hx).1
        refine ⟨by omega, i, j + 1, ts ++ [x], ?_, by omega, by omega, by omega, k3, by rw [e, hm]; simp⟩
        show [_, _, _, _, some (V.int ((j : Int) + 1))] = _
        congr 1
  · have c' : ¬ (i < l.length ∨ j < m.length) := of_decide_eq_false (Bool.eq_false_iff.mpr c)
    have e1 : i = l.length := by omega
    have e2 : j = m.length := by omega
    rw [e1, e2, List.drop_length, List.drop_length, merge_nil_r, List.append_nil] at e
    refine ⟨_, rfl, q _ _ ?_⟩
    rw [e]; exact g.done
end
section
variable {P : Program} {w : World} {K : PySem.W.Frag} {mg : Str → Option Value} {base : Heap}
/-! ### told_of -/
theorem toldL_len (l acc : List Tt) : (toldL acc l).length = acc.length + l.length := by
  rw [(toldL_perm l acc).length_eq, List.length_append, List.length_map]
theorem depthL_iff : ∀ {l : List Tt} {n : Nat}, depthL l ≤ n ↔ ∀ x, x ∈ l → depth x + 1 ≤ n
  | [], n => by simp [depthL]
  | x :: l, n => by
    rw [depthL]
    have ih := depthL_iff (l := l) (n := n)
    constructor
    · intro h y hy
      rcases List.mem_cons.mp hy with e | hy
      · rw [e]; omega
      · exact ih.mp (by omega) y hy
    · intro h
      have h1 := h x List.mem_cons_self
      have h2 := ih.mpr fun y hy => h y (List.mem_cons_of_mem _ hy)
      omega
theorem mem_toldL {l : List Tt} {x : Tt} (h : x ∈ toldL [] l) : ∃ y, y ∈ l ∧ x = told y := by
  have := (toldL_perm l []).mem_iff.mp h
  rw [List.nil_append] at this
  obtain ⟨y, hy, e⟩ := List.mem_map.mp this
  exact ⟨y, hy, e.symm⟩
theorem depth_told_le (t : Tt) : depth (told t) ≤ depth t := by
  induction t using Tt.ind with
  | h l ih =>
    rw [told_mk, depth, depth]
    refine depthL_iff.mpr fun x hx => ?_
    obtain ⟨y, hy, e⟩ := mem_toldL hx
    subst e
    have := ih y hy
    have := depthL_le hy
    omega
theorem fit_told (t : Tt) (h : fit t) : fit (told t) := by
  induction t using Tt.ind with
  | h l ih =>
    rw [told_mk, fit_mk]
    refine ⟨by rw [toldL_len]; have := fit_len h; simp only [List.length_nil]; omega, fitL_iff.mpr fun x hx => ?_⟩
    obtain ⟨y, hy, e⟩ := mem_toldL hx
    subst e
    exact ih y hy (fit_bs h hy)
theorem depth_told {t : Tt} {n : Nat} (h : depth t < n) : depth (told t) < n := Nat.lt_of_le_of_lt (depth_told_le t) h
theorem toldL_more {l : List Tt} {i : Nat} {b : Tt} (h : l[i]? = some b) : toldL [] (l.take (i + 1)) = merge (toldL [] (l.take i)) [told b] := by
  rw [take_more h, toldL_append, toldL_cons, toldL_nil, merge_one]
def spToldOf (n : Nat) : Sp := fun vs H Q _ => ∃ (v : V) (t : Tt), vs = [v] ∧ TreeAt H v t ∧ fit t ∧ depth t < n ∧ ∀ H' r, New H H' r (told t) → Q r H'
theorem ok_told_of (T : Txt K mg) : ∀ n, FnOk P w K mg base CX0 (n + 2) T.a_told_of T.d_told_of ["tree"] (spToldOf n)
  | 0 => none_left fun vs H Q E ⟨v, t, _, _, _, h, _⟩ => by omega
  | n + 1 => by
    have G_told_of := ok_told_of T n
    have G_merged := ok_merged (P := P) (w := w) (base := base) T n
    refine T.F_told_of.ok sc_told_of (fun vs H Q E h => ?_) (fun cdv A outer s H vs Q E hr h => ?_)
    · obtain ⟨v, t, rfl, _⟩ := h; rfl
    obtain ⟨v, ⟨bs⟩, rfl, ht, hf, hd, q⟩ := h
    have R_told_of : Room (n + 2) _ := hr
    have R_merged : Room (n + 1) _ := hr.mono (by omega)
    rw [treeAt_mk] at ht
    rw [told_mk] at q
    obtain ⟨a, xs, rfl, ha, hbs⟩ := ht
    have flen := fit_len hf
    refine ⟨_, (pss_cons (ps_set (i := 1) sc_told_of.nd rfl (Or.inl rfl) (pe_lst pa_nil))
      (pss_cons (ps_for PassesOwn.never rfl (pi_list (pv 0)) (pg_name (i := 2) sc_told_of.nd rfl (Or.inl rfl)) (pss_one (ps_set (i := 1) sc_told_of.nd rfl (Or.inl rfl) (pe_call G_merged R_merged rfl T.m_merged T.k_merged T.b_merged .nil pass0 (pa_cons (pv 1) (pa_cons (pe_lst (pa_cons (pe_call G_told_of R_told_of rfl T.m_told_of T.k_told_of T.b_told_of .nil pass0 (pa_cons (pv 2) pa_nil)) pa_nil)) pa_nil))))))
      (pss_one (ps_ret (pv 1))))), ?_⟩
    refine ⟨(by show 0 ≤ sizeLine; decide), fun D nD => ?_⟩
    refine ⟨_, rfl, a, rfl, ⟨xs, SqL.of (same_new nD _ _ _ ha)⟩, ?_⟩
    refine for_it (walk_list (xs := xs)) (fun i σ H' => ∃ r o, σ = [some (.ref a), some r, o] ∧ New H H' r (.mk (toldL [] (bs.take i)))) ⟨_, none, rfl, (Grow.start nD).done⟩ (fun i σ H' _ p => ?_) ?_ ?_
    · obtain ⟨r, o, _, nw⟩ := p
      exact SqL.of (nw.1 _ _ ha)
    · rintro i x σ H1 H2 hi ⟨r, o, rfl, nw⟩ ⟨rfl, hx⟩
      obtain ⟨b, hb, hxb⟩ := hbs.get hx
      have mb := List.mem_of_getElem? hb
      have hib := (List.getElem?_eq_some_iff.mp hb).1
      refine ⟨_, rfl, _, rfl, x, b, rfl, TreeAt.same nw.1 b hxb, fit_bs hf mb, depth_bs hd mb, fun H3 r2 nw2 => ?_⟩
      refine ⟨(by show 1 ≤ sizeLine; decide), fun p np => ?_⟩
      have s4 : Same H3 (upd H3 p (.lst [r2])) := same_new np _
      have fl1 : fitL (toldL [] (bs.take i)) := fitL_iff.mpr fun y hy => by
        obtain ⟨z, hz, e⟩ := mem_toldL hy
        rw [e]
        exact fit_told z (fit_bs hf (List.mem_of_mem_take hz))
      have dl1 : ∀ y, y ∈ toldL [] (bs.take i) → depth y < n := fun y hy => by
        obtain ⟨z, hz, e⟩ := mem_toldL hy
        rw [e]
        exact depth_told (depth_bs hd (List.mem_of_mem_take hz))
      refine ⟨r, .ref p, toldL [] (bs.take i), [told b], rfl, TreeAt.same (nw2.1.trans s4) _ nw.at_, ?_, fl1, ?_, ?_, dl1, ?_, fun H5 r3 nw3 => ?_⟩
      · rw [treeAt_mk]
        exact ⟨p, [r2], rfl, upd_same, TreesAt.one (TreeAt.same s4 _ nw2.at_)⟩
      · exact fitL_iff.mpr fun y hy => by
          rw [List.mem_singleton] at hy
          rw [hy]
          exact fit_told b (fit_bs hf mb)
      · rw [toldL_len, List.length_take, List.length_singleton, List.length_nil]
        omega
      · intro y hy
        rw [List.mem_singleton] at hy
        rw [hy]
        exact depth_told (depth_bs hd mb)
      · refine ⟨r3, some x, rfl, ?_⟩
        rw [toldL_more hb]
        exact nw3.of (nw.1.trans (nw2.1.trans s4))
    · rintro σ H1 ⟨r, o, rfl, nw⟩
      rw [hbs.len, List.take_length] at nw
      exact ⟨_, rfl, q _ _ nw⟩
/-! ### knots -/
def spKnots (n : Nat) : Sp := fun vs H Q _ => ∃ (v : V) (t : Tt), vs = [v] ∧ TreeAt H v t ∧ fit t ∧ depth t < n ∧ ∀ H', Same H H' → Q (.int (knots t)) H'
theorem knotsL_sum : ∀ l : List Tt, ((l.map fun x => (knots x : Int)).sum : Int) = knotsL l
  | [] => by simp [knotsL]
  | x :: l => by rw [List.map_cons, List.sum_cons, knotsL_sum l, knotsL]; omega
/-- a new list at D that holds what f says of the branches gone through -/
def Fill (H H' : Hp) (D : Addr) (vs : List V) : Prop := Same H H' ∧ H D = none ∧ H' D = some (.lst vs)
theorem Fill.start {H : Hp} {D : Addr} (h : H D = none) : Fill H (upd H D (.lst [])) D [] := ⟨same_new h _, h, upd_same⟩
theorem Fill.more {H H' H2 : Hp} {D : Addr} {vs : List V} {v : V} (g : Fill H H' D vs) (s : Same H' H2) : H2 D = some (.lst vs) ∧ Fill H (upd H2 D (.lst (vs ++ [v]))) D (vs ++ [v]) :=
  ⟨s _ _ g.2.2, fun b u q => by rw [upd_ne (ne_of_none q g.2.1)]; exact s _ _ (g.1 _ _ q), g.2.1, upd_same⟩
theorem ok__law_knots (T : Txt K mg) : ∀ n, FnOk P w K mg base CX0 n T.a__law_knots T.d__law_knots ["_law_tree_here"] (spKnots n)
  | 0 => none_left fun vs H Q E ⟨v, t, _, _, _, h, _⟩ => by omega
  | n + 1 => by
    have G__law_knots := ok__law_knots T n
    refine T.F__law_knots.ok sc__law_knots (fun vs H Q E h => ?_) (fun cdv A outer s H vs Q E hr h => ?_)
    · obtain ⟨v, t, rfl, _⟩ := h; rfl
    obtain ⟨v, ⟨bs⟩, rfl, ht, hf, hd, q⟩ := h
    have R__law_knots : Room n _ := hr
    rw [treeAt_mk] at ht
    obtain ⟨a, xs, rfl, ha, hbs⟩ := ht
    refine ⟨_, (pss_one (ps_ret (pe_op op_add pe_int (pe_callB (r := rSum K) (cr_sum rfl) (by rfl) T.z_sum (by decide +kernel) (pa_cons (pe_lc (own := [("_law_branch", 1)]) (g := gName 1) (tt := tYes) rfl sc__law_knots.nd (pi_list (pv 0)) (blkOk_by (own := [("_law_branch", 1)]) (N := ["_law_tree_here", "_law_branch"]) (sc := defScope s__law_knots) (by decide +kernel)) (fun _ _ _ _ _ => (pg_name (i := 1) sc__law_knots.nd rfl (Or.inl rfl))) (fun _ _ _ _ _ => pts_nil) (fun _ _ _ _ _ => (pe_call G__law_knots R__law_knots rfl T.m__law_knots T.k__law_knots T.b__law_knots .nil pass0 (pa_cons (pv 1) pa_nil)))) pa_nil))))), ?_⟩
    refine ⟨_, rfl, a, rfl, ⟨xs, SqL.of ha⟩, fun D nD => ?_⟩
    refine lc_it (walk_list (xs := xs)) (fun i H' => Fill H H' D (((bs.take i).map fun x => (knots x : Int)).map V.int)) (Fill.start nD) (fun i H' _ g => SqL.of (g.1 _ _ ha)) ?_ ?_
    · rintro i x H1 H2 hi g ⟨rfl, hx⟩
      obtain ⟨b, hb, hxb⟩ := hbs.get hx
      have mb := List.mem_of_getElem? hb
      refine ⟨rfl, _, rfl, x, b, rfl, TreeAt.same g.1 b hxb, fit_bs hf mb, depth_bs hd mb, fun H3 s3 => ?_⟩
      obtain ⟨h1, h2⟩ := g.more (v := .int (knots b)) s3
      refine ⟨_, h1, ?_, ?_⟩
      · rw [List.length_map, List.length_map, List.length_take]
        exact lim_line (Nat.le_trans (Nat.min_le_right _ _) (fit_len hf))
      · rw [take_more hb, List.map_append, List.map_append]; exact h2
    · intro H1 g
      rw [hbs.len, List.take_length] at g
      refine ⟨D, _, rfl, SqL.of g.2.2, _, _, rfl, rfl, ?_⟩
      show Q (.int (1 + (bs.map fun x => (knots x : Int)).sum)) H1
      rw [knotsL_sum]
      have := q H1 g.1
      rw [knots] at this
      exact this
end
section
variable {P : Program} {w : World} {K : PySem.W.Frag} {mg : Str → Option Value} {base : Heap}
/-! ### is_tree -/
/-- all but l is kept -/
def Kept (l : Addr) (H H' : Hp) : Prop := ∀ b o, b ≠ l → H b = some o → H' b = some o
def spIsTree (n : Nat) : Sp := fun vs H Q _ => ∃ (H0 : Hp) (v : V) (th : Th) (d : Nat) (L : Int) (l : Addr), vs = [v, .int d, .ref l] ∧ ThAt H0 v th ∧ Same H0 H ∧ H0 l = none ∧ H l = some (.lst [.int L]) ∧ fitTh th ∧ 42 ≤ d + n ∧ d ≤ 41 ∧
  ∀ H', Kept l H H' → H' l = some (.lst [.int (isT th d L).2]) → Q (.bl (isT th d L).1) H'
theorem Kept.same {H0 H H' : Hp} {l : Addr} (k : Kept l H H') (s : Same H0 H) (n : H0 l = none) : Same H0 H' := fun b o e => k b o (ne_of_none e n) (s b o e)
theorem ok_is_tree (T : Txt K mg) : ∀ n, FnOk P w K mg base CX0 n T.a_is_tree T.d_is_tree ["thing", "depth", "left"] (spIsTree n)
  | 0 => none_left fun vs H Q E ⟨H0, v, th, d, L, l, _, _, _, _, _, _, h1, h2, _⟩ => by omega
  | n + 1 => by
    have G_is_tree := ok_is_tree T n
    refine T.F_is_tree.ok sc_is_tree (fun vs H Q E h => ?_) (fun cdv A outer s H vs Q E hr h => ?_)
    · obtain ⟨H0, v, th, d, L, l, rfl, _⟩ := h; rfl
    obtain ⟨H0, v, th, d, L, l, rfl, ht, s0, nl, hl, hf, hn, hd, q⟩ := h
    have R_is_tree : Room n _ := hr
    have ht1 := ThAt.same s0 th ht
    refine ⟨_, (pss_cons (ps_if (PW.pt (pw_or (pt_not (pt_val (pe_callB (r := rIsi K) call_isi (by rfl) T.z_isinstance (by decide +kernel) (pa_cons (pv 0) (pa_cons (pe_bltn (v := .ty "list") (u := .type "list") (by rfl) T.z_list (by decide +kernel) rfl) pa_nil))))) (pw_or (pt_cmpR op_gt (pv 1) (pe_glob (v := .int 40) rfl T.c_DEEPEST ⟨_, rfl⟩) (nomark _)) (pw_or1 (pt_cmpR op_lt (pe_ix (r := rIxL K) ix_list (pv 2) pe_int (fun _ _ => rfl)) pe_int (nomark _)))))) (pss_one (ps_ret pe_bl)) pss_nil)
      (pss_cons (ps_asg (pe_op op_sub (pe_ix (r := rIxL K) ix_list (pv 2) pe_int (fun _ _ => rfl)) pe_int) (pg_sub (pv 2) pe_int set_list))
      (pss_one (ps_ret (pe_callB (r := rAll K) (cr_all rfl) (by rfl) T.z_all (by decide +kernel) (pa_cons (pe_lc (own := [("branch", 3)]) (g := gName 3) (tt := tYes) rfl sc_is_tree.nd (pi_list (pv 0)) (blkOk_by (own := [("branch", 3)]) (N := ["thing", "depth", "left", "branch"]) (sc := defScope s_is_tree) (by decide +kernel)) (fun _ _ _ _ _ => (pg_name (i := 3) sc_is_tree.nd rfl (Or.inl rfl))) (fun _ _ _ _ _ => pts_nil) (fun _ _ _ _ _ => (pe_call G_is_tree R_is_tree rfl T.m_is_tree T.k_is_tree T.b_is_tree .nil pass0 (pa_cons (pv 3) (pa_cons (pe_op op_add (pv 1) pe_int) (pa_cons (pv 2) pa_nil)))))) pa_nil)))))), ?_⟩
    cases th with
    | no =>
      rw [thAt_no] at ht1
      obtain ⟨ty, h1, h2⟩ := Leaf.isi (K := K) ht1
      refine ⟨_, rfl, _, _, ty, _, false, rfl, ClsV.ty _, h1, h2, _, rfl, iteT ?_⟩
      refine iteT ?_
      rw [isT_no] at q
      exact q H (fun _ _ _ e => e) hl
    | li bs =>
      rw [thAt_li] at ht ht1
      obtain ⟨a, xs, rfl, ha0, hbs0⟩ := ht
      obtain ⟨a', xs', ea, ha, hbs⟩ := ht1
      cases ea
      have exs : xs' = xs := by have := s0 _ _ ha0; rw [this] at ha; injection ha with ha; injection ha with ha; exact ha.symm
      subst exs
      rw [fitTh_li] at hf
      obtain ⟨h1, h2⟩ := list_isi (K := K) ha
      refine ⟨_, rfl, _, _, _, _, true, rfl, ClsV.ty _, h1, h2, _, rfl, iteF ?_⟩
      refine cut_t (fun b H' => H' = H ∧ b = decide (40 < d ∨ L < 1)) (fun Q' hQ' => ?_) ?_
      · refine ⟨_, rfl, _, _, rfl, rfl, _, rfl, ?_⟩
        refine ite2 (fun c => ?_) (fun c => ?_)
        · have c' : (40 : Int) < (d : Int) := of_decide_eq_true c
          exact hQ' _ _ ⟨rfl, (decide_eq_true (by omega)).symm⟩
        · have c' : ¬ (40 : Int) < (d : Int) := of_decide_eq_false (Bool.eq_false_iff.mpr c)
          refine ⟨_, rfl, l, _, 0, _, rfl, rfl, SqL.of hl, rfl, _, _, rfl, rfl, _, rfl, hQ' _ _ ⟨rfl, ?_⟩⟩
          refine decide_eq_decide.mpr ?_
          omega
      rintro b1 H1 ⟨rfl, rfl⟩
      rw [isT_li] at q
      refine ite2 (fun c => ?_) (fun c => ?_)
      · rw [if_pos (of_decide_eq_true c)] at q
        exact q H1 (fun _ _ _ e => e) hl
      · have c' := of_decide_eq_false (Bool.eq_false_iff.mpr c)
        rw [if_neg c'] at q
        -- left[0] = left[0] - 1
        refine ⟨_, rfl, l, _, 0, _, rfl, rfl, SqL.of hl, rfl, _, _, rfl, rfl, _, rfl, l, _, 0, 0, rfl, rfl, hl, rfl, ?_⟩
        have k1 : Kept l H1 (upd H1 l (.lst ([V.int L].set 0 (.int (L - 1))))) := fun b o nb e => by rw [upd_ne nb]; exact e
        have l1 : (upd H1 l (.lst ([V.int L].set 0 (.int (L - 1))))) l = some (.lst [.int (L - 1)]) := upd_same
        generalize upd H1 l (.lst ([V.int L].set 0 (.int (L - 1)))) = H2 at k1 l1 ⊢
        have s2 : Same H0 H2 := k1.same s0 nl
        refine ⟨_, rfl, a, rfl, ⟨xs', SqL.of (s2 _ _ ha0)⟩, fun D nD => ?_⟩
        have nDl : D ≠ l := fun e => by rw [e, l1] at nD; cases nD
        refine lc_it (walk_list (xs := xs')) (fun i H' => Kept l H2 H' ∧ H' l = some (.lst [.int (isTl (bs.take i) (d + 1) (L - 1)).2]) ∧ H' D = some (.lst ((isTl (bs.take i) (d + 1) (L - 1)).1.map V.bl))) ?_ (fun i H' _ g => SqL.of (g.1.same s2 nl _ _ ha0)) ?_ ?_
        · refine ⟨fun b o nb e => by rw [upd_ne (ne_of_none e nD)]; exact e, ?_, ?_⟩
          · rw [upd_ne (Ne.symm nDl), List.take_zero, isTl_nil]; exact l1
          · rw [upd_same, List.take_zero, isTl_nil]; rfl
        · rintro i x H3 H4 hi ⟨g1, g2, g3⟩ ⟨rfl, hx⟩
          obtain ⟨b, hb, hxb⟩ := hbs0.get hx
          have mb := List.mem_of_getElem? hb
          have hib := (List.getElem?_eq_some_iff.mp hb).1
          refine ⟨rfl, _, rfl, _, rfl, _, _, rfl, rfl, _, rfl, H0, x, b, d + 1, _, l, rfl, hxb, g1.same s2 nl, nl, g2, fitThL_mem hf.2 b mb, by omega, by omega, fun H5 k5 l5 => ?_⟩
          refine ⟨_, k5 _ _ nDl g3, ?_, fun b o nb e => ?_, ?_, ?_⟩
          · rw [List.length_map, isTl_len, List.length_take]
            exact lim_line (by omega)
          · by_cases hD : b = D
            · rw [hD] at e; rw [nD] at e; cases e
            · rw [upd_ne hD]; exact k5 _ _ nb (g1 _ _ nb e)
          · rw [upd_ne (Ne.symm nDl), take_more hb, isTl_snoc]; exact l5
          · rw [upd_same, take_more hb, isTl_snoc, List.map_append]; rfl
        · rintro H3 ⟨g1, g2, g3⟩
          have e1 : bs.take xs'.length = bs := by rw [hbs.len, List.take_length]
          rw [e1] at g2 g3
          exact ⟨D, _, rfl, SqL.of g3, q H3 (fun b o nb e => g1 b o nb (k1 b o nb e)) g2⟩
/-! ### asked_tree -/
def spAskedTree (A : Addr) : Sp := fun vs H Q E => ∃ v, vs = [v] ∧ ((∃ t, TreeAt H v t ∧ okT t ∧ ∀ H', Same H H' → Q .non H') ∨ (Bad H v ∧ ∀ H', Same H H' → E (.ref A) none H'))
theorem ok_asked_tree (T : Txt K mg) : FnOk P w K mg base (L2N.CX P w) 43 T.a_asked_tree T.d_asked_tree ["tree"] (spAskedTree T.A_BadTree) := by
  have G_is_tree := ok_is_tree (P := P) (w := w) (base := base) T 42
  refine okN T.F_asked_tree sc_asked_tree (fun vs H Q E h => ?_) (fun cdv A outer s H vs Q E hr h => ?_)
  · obtain ⟨v, rfl, _⟩ := h; rfl
  obtain ⟨v, rfl, h⟩ := h
  have R_is_tree : Room 42 _ := hr
  refine ⟨_, (pss_one (ps_if (pt_not (pt_val (pe_call G_is_tree R_is_tree rfl T.m_is_tree T.k_is_tree T.b_is_tree .nil pass0 (pa_cons (pv 0) (pa_cons pe_int (pa_cons (pe_lst (pa_cons (pe_glob (v := .int 300) rfl T.c_MOST ⟨_, rfl⟩) pa_nil)) pa_nil)))))) (pss_one (L2N.ps_raise rfl (L2N.takes_of rfl rfl rfl rfl) (L2N.pmk_own PySem.F.excBase_ValueError T.x_BadTree T.g_BadTree T.k_BadTree (raises_own T.sb_BadTree T.tt_BadTree) (by exact rfl)))) pss_nil)), ?_⟩
  have sLen : ([V.int 300] : List V).length ≤ sizeLine := by decide
  rcases h with ⟨t, ht, ho, q⟩ | ⟨⟨th, ht, hf, hb⟩, q⟩
  · refine ⟨_, rfl, sLen, fun l nl => ?_⟩
    refine ⟨H, v, toTh t, 0, 300, l, rfl, TreeAt.th t ht, same_new nl _, nl, upd_same, fit_toTh t ho.fit, by omega, by omega, fun H' k1 k2 => ?_⟩
    have e := isT_tree t 0 300 ho.2 (by have := ho.1; omega)
    rw [e]
    refine ⟨_, rfl, iteF (q _ ?_)⟩
    exact k1.same (same_new nl _) nl
  · refine ⟨_, rfl, sLen, fun l nl => ?_⟩
    refine ⟨H, v, th, 0, 300, l, rfl, ht, same_new nl _, nl, upd_same, hf, by omega, by omega, fun H' k1 k2 => ?_⟩
    rw [hb]
    exact ⟨_, rfl, iteT (q _ (k1.same (same_new nl _) nl))⟩
end
section
variable {P : Program} {w : World} {K : PySem.W.Frag} {mg : Str → Option Value} {base : Heap}
/-! ### told -/
def spTold (A : Addr) : Sp := fun vs H Q E => ∃ v, vs = [v] ∧ ((∃ t, TreeAt H v t ∧ okT t ∧ ∀ H' r, New H H' r (told t) → Q r H') ∨ (Bad H v ∧ ∀ H', Same H H' → E (.ref A) none H'))
/-! ### compare -/
def sgn (i : Int) : Int := if 0 < i then 1 else if i = 0 then 0 else -1
/-- the first one is none, or the second one -/
def Bad2 (H : Hp) (v u : V) : Prop := Bad H v ∨ ((∃ t, TreeAt H v t ∧ okT t) ∧ Bad H u)
def spCompare (A : Addr) : Sp := fun vs H Q E => ∃ v u, vs = [v, u] ∧ ((∃ t s, TreeAt H v t ∧ okT t ∧ TreeAt H u s ∧ okT s ∧ ∀ H', Same H H' → Q (.int (sgn (cmp (told t) (told s)))) H') ∨ (Bad2 H v u ∧ ∀ H', Same H H' → E (.ref A) none H'))
theorem ok_compare (T : Txt K mg) : FnOk P w K mg base (L2N.CX P w) 44 T.a_compare T.d_compare ["one", "other"] (spCompare T.A_BadTree) := by
  have G_asked_tree := ok_asked_tree (P := P) (w := w) (base := base) T
  have G_told_of := ok_told_of (P := P) (w := w) (base := base) T 41
  have G_compared := ok_compared (P := P) (w := w) (base := base) T 41
  refine okN T.F_compare sc_compare (fun vs H Q E h => ?_) (fun cdv A outer s H vs Q E hr h => ?_)
  · obtain ⟨v, u, rfl, _⟩ := h; rfl
  obtain ⟨v, u, rfl, h⟩ := h
  have R_asked_tree : Room 43 _ := hr
  have R_told_of : Room 43 _ := hr
  have R_compared : Room 41 _ := hr.mono (by omega)
  refine ⟨_, (pss_cons (ps_expr (pe_call G_asked_tree R_asked_tree rfl T.m_asked_tree T.k_asked_tree T.b_asked_tree .nil (L2N.passes_call (L2N.takes_of rfl rfl rfl rfl) (fun _ _ _ _ h => h)) (pa_cons (pv 0) pa_nil)))
      (pss_cons (ps_expr (pe_call G_asked_tree R_asked_tree rfl T.m_asked_tree T.k_asked_tree T.b_asked_tree .nil (L2N.passes_call (L2N.takes_of rfl rfl rfl rfl) (fun _ _ _ _ h => h)) (pa_cons (pv 1) pa_nil)))
      (pss_cons (ps_set (i := 2) sc_compare.nd rfl (Or.inl rfl) (pe_call G_compared R_compared rfl T.m_compared T.k_compared T.b_compared .nil pass0 (pa_cons (pe_call G_told_of R_told_of rfl T.m_told_of T.k_told_of T.b_told_of .nil pass0 (pa_cons (pv 0) pa_nil)) (pa_cons (pe_call G_told_of R_told_of rfl T.m_told_of T.k_told_of T.b_told_of .nil pass0 (pa_cons (pv 1) pa_nil)) pa_nil))))
      (pss_one (ps_ret (pe_ifExp (pt_cmpR op_gt (pv 2) pe_int (nomark _)) pe_int (pe_ifExp (pt_cmpR op_eq (pv 2) pe_int (nomark _)) pe_int (pe_un un_neg pe_int)))))))), ?_⟩
  rcases h with ⟨t, s, ht, ho, hs, hos, q⟩ | ⟨hb | ⟨⟨t, ht, ho⟩, hb⟩, q⟩
  · refine ⟨_, rfl, v, rfl, .inl ⟨t, ht, ho, fun H1 s1 => ?_⟩⟩
    refine ⟨_, rfl, u, rfl, .inl ⟨s, TreeAt.same s1 s hs, hos, fun H2 s2 => ?_⟩⟩
    have s12 := s1.trans s2
    refine ⟨_, rfl, v, t, rfl, TreeAt.same s12 t ht, ho.fit, ho.dp, fun H3 r3 n3 => ?_⟩
    refine ⟨_, rfl, u, s, rfl, TreeAt.same (s12.trans n3.1) s hs, hos.fit, hos.dp, fun H4 r4 n4 => ?_⟩
    refine ⟨r3, r4, told t, told s, rfl, TreeAt.same n4.1 _ n3.at_, n4.at_, depth_told ho.dp, fun H5 s5 => ?_⟩
    have z := q H5 (s12.trans (n3.1.trans (n4.1.trans s5)))
    unfold sgn at z
    refine ⟨_, rfl, _, _, rfl, rfl, _, rfl, ?_⟩
    refine ite2 (fun c => ?_) (fun c => ?_)
    · have c' : 0 < cmp (told t) (told s) := of_decide_eq_true c
      rw [if_pos c'] at z
      exact z
    · have c' : ¬ 0 < cmp (told t) (told s) := of_decide_eq_false (Bool.eq_false_iff.mpr c)
      rw [if_neg c'] at z
      refine ⟨_, rfl, rfl, _, rfl, ?_⟩
      refine ite2 (fun c => ?_) (fun c => ?_)
      · have c2 : V.int (cmp (told t) (told s)) = V.int 0 := of_decide_eq_true c
        injection c2 with c2
        rw [if_pos c2] at z
        exact z
      · have c2 : ¬ V.int (cmp (told t) (told s)) = V.int 0 := of_decide_eq_false (Bool.eq_false_iff.mpr c)
        rw [if_neg (fun e => c2 (by rw [e]))] at z
        exact ⟨_, rfl, z⟩
  · exact ⟨_, rfl, v, rfl, .inr ⟨hb, fun H1 s1 => q _ s1⟩⟩
  · refine ⟨_, rfl, v, rfl, .inl ⟨t, ht, ho, fun H1 s1 => ?_⟩⟩
    exact ⟨_, rfl, u, rfl, .inr ⟨hb.same s1, fun H2 s2 => q _ (s1.trans s2)⟩⟩
/-! ### asked_great -/
def spAskedGreat (A : Addr) : Sp := fun vs H Q E => ∃ v t, vs = [v] ∧ TreeAt H v t ∧ fit t ∧ depth t ≤ 40 ∧ (knots t ≤ 300 → ∀ H', Same H H' → Q v H') ∧ (300 < knots t → ∀ H', Same H H' → E (.ref A) none H')
/-! ### together -/
/-- two trees -/
def spTwo (A B : Addr) (f : List Tt → List Tt → List Tt) : Sp := fun vs H Q E => ∃ v u, vs = [v, u] ∧
  ((∃ l m, TreeAt H v (.mk l) ∧ okT (.mk l) ∧ TreeAt H u (.mk m) ∧ okT (.mk m) ∧ (knots (.mk (f l m)) ≤ 300 → ∀ H' r, New H H' r (.mk (f l m)) → Q r H') ∧ (300 < knots (.mk (f l m)) → ∀ H', Same H H' → E (.ref B) none H')) ∨ (Bad2 H v u ∧ ∀ H', Same H H' → E (.ref A) none H'))
theorem merge_mem {l m : List Tt} {x : Tt} (h : x ∈ merge l m) : x ∈ l ∨ x ∈ m := List.mem_append.mp ((merge_perm l m).mem_iff.mp h)
theorem depth_mk_of {l : List Tt} {n : Nat} (h : ∀ x, x ∈ l → depth x < n) : depth (.mk l) ≤ n := by rw [depth]; exact depthL_iff.mpr h
theorem fit_mk_of {l : List Tt} (h : ∀ x, x ∈ l → fit x) (hl : l.length ≤ lim) : fit (.mk l) := by rw [fit_mk]; exact ⟨hl, fitL_iff.mpr h⟩
theorem toldB_depth {l : List Tt} {n : Nat} (h : depth (.mk l) ≤ n) : ∀ x, x ∈ toldL [] l → depth x < n := fun x hx => by
  obtain ⟨y, hy, e⟩ := mem_toldL hx
  rw [e]
  rw [depth] at h
  have := depthL_le hy
  exact depth_told (by omega)
theorem toldB_fit {l : List Tt} (h : fit (.mk l)) : ∀ x, x ∈ toldL [] l → fit x := fun x hx => by
  obtain ⟨y, hy, e⟩ := mem_toldL hx
  rw [e]
  exact fit_told y (fit_bs h hy)
theorem okT_len {l : List Tt} (h : okT (.mk l)) : (toldL [] l).length ≤ 300 := by
  have h1 := h.1
  rw [knots] at h1
  have := knotsL_len l
  rw [toldL_len]
  simp only [List.length_nil]
  omega
end
/-! ### ways to heads -/
def wI (w : List Nat) : List Int := w.map fun (n : Nat) => (n : Int)
theorem wI_cons (i : Nat) (w : List Nat) : wI (i :: w) = (i : Int) :: wI w := rfl
theorem wI_len (w : List Nat) : (wI w).length = w.length := List.length_map _
theorem wI_inj : ∀ {a b : List Nat}, wI a = wI b → a = b
  | [], [], _ => rfl
  | [], _ :: _, h => by cases h
  | _ :: _, [], h => by cases h
  | x :: a, y :: b, h => by
    rw [wI_cons, wI_cons] at h
    injection h with h1 h2
    rw [wI_inj h2, Int.ofNat.inj h1]
mutual
def headsT : Tt → List (List Nat)
  | .mk l => headsL 0 l
def headsL (i : Nat) : List Tt → List (List Nat)
  | [] => []
  | x :: l => (if x.bs.isEmpty = true then [[i]] else (headsT x).map (i :: ·)) ++ headsL (i + 1) l
end
def head1 (i : Nat) (x : Tt) : List (List Nat) := if x.bs.isEmpty = true then [[i]] else (headsT x).map (i :: ·)
theorem headsT_mk (l : List Tt) : headsT (.mk l) = headsL 0 l := by rw [headsT]
theorem headsL_nil (k : Nat) : headsL k [] = [] := by rw [headsL]
theorem headsL_cons (k : Nat) (x : Tt) (l : List Tt) : headsL k (x :: l) = head1 k x ++ headsL (k + 1) l := by rw [headsL]; rfl
theorem headsL_snoc : ∀ (l : List Tt) (k : Nat) (x : Tt), headsL k (l ++ [x]) = headsL k l ++ head1 (k + l.length) x
  | [], k, x => by rw [List.nil_append, headsL_cons, headsL_nil, headsL_nil]; simp
  | y :: l, k, x => by
    rw [List.cons_append, headsL_cons, headsL_cons, headsL_snoc l (k + 1) x, List.append_assoc, List.length_cons]
    have e : k + 1 + l.length = k + (l.length + 1) := by omega
    rw [e]
theorem heads_mem : ∀ {l : List Tt} {k : Nat} {w : List Nat}, w ∈ headsL k l → ∃ i b, l[i]? = some b ∧ w ∈ head1 (k + i) b
  | [], k, w, h => by rw [headsL_nil] at h; cases h
  | x :: l, k, w, h => by
    rw [headsL_cons] at h
    rcases List.mem_append.mp h with h | h
    · exact ⟨0, x, rfl, h⟩
    · obtain ⟨i, b, h1, h2⟩ := heads_mem h
      refine ⟨i + 1, b, h1, ?_⟩
      have e : k + 1 + i = k + (i + 1) := by omega
      rw [← e]; exact h2
theorem bs_empty {x : Tt} (h : x.bs.isEmpty = true) : x = .mk [] := by
  obtain ⟨l⟩ := x
  have : l = [] := List.isEmpty_iff.mp h
  rw [this]
theorem heads_way (t : Tt) : ∀ w, w ∈ headsT t → 1 ≤ w.length ∧ w.length ≤ depth t := by
  induction t using Tt.ind with
  | h l ih =>
    intro w h
    rw [headsT_mk] at h
    obtain ⟨i, b, h1, h2⟩ := heads_mem h
    have mb := List.mem_of_getElem? h1
    have db := depthL_le mb
    rw [depth]
    unfold head1 at h2
    split at h2
    · rw [List.mem_singleton] at h2
      rw [h2, List.length_singleton]
      omega
    · obtain ⟨u, hu, e⟩ := List.mem_map.mp h2
      have := ih b mb u hu
      rw [← e, List.length_cons]
      omega
mutual
theorem heads_len : ∀ t : Tt, (headsT t).length + 1 ≤ knots t
  | .mk l => by rw [headsT, knots]; have := headsL_len 0 l; omega
theorem headsL_len : ∀ (k : Nat) (l : List Tt), (headsL k l).length ≤ knotsL l
  | k, [] => by rw [headsL, knotsL]; exact Nat.le_refl _
  | k, x :: l => by
    rw [headsL, knotsL, List.length_append]
    have h1 := heads_len x
    have h2 := headsL_len (k + 1) l
    have h3 : (if x.bs.isEmpty = true then [[k]] else (headsT x).map (k :: ·)).length ≤ knots x := by
      split
      · have := depth_knots1 x
        rw [List.length_singleton]; omega
      · rw [List.length_map]; omega
    omega
theorem depth_knots1 : ∀ x : Tt, 1 ≤ knots x
  | .mk l => by rw [knots]; omega
end
/-- where a way leads to -/
def subT : Tt → List Nat → Option Tt
  | t, [] => some t
  | .mk bs, i :: w => match bs[i]? with
    | some b => subT b w
    | none => none
def putT : Tt → List Nat → Tt → Tt
  | _, [], s => s
  | .mk bs, i :: w, s => match bs[i]? with
    | some b => .mk (bs.set i (putT b w s))
    | none => .mk bs
theorem subT_nil (t : Tt) : subT t [] = some t := by cases t; rfl
theorem putT_nil (t s : Tt) : putT t [] s = s := by cases t; rfl
theorem subT_cons {bs : List Tt} {i : Nat} {w : List Nat} {b : Tt} (h : bs[i]? = some b) : subT (.mk bs) (i :: w) = subT b w := by
  rw [subT, h]
theorem subT_step {bs : List Tt} {i : Nat} {w : List Nat} {s : Tt} (h : subT (.mk bs) (i :: w) = some s) : ∃ b, bs[i]? = some b ∧ subT b w = some s := by
  cases e : bs[i]? with
  | none => rw [subT, e] at h; cases h
  | some b => rw [subT_cons e] at h; exact ⟨b, rfl, h⟩
theorem putT_cons {bs : List Tt} {i : Nat} {w : List Nat} {b s : Tt} (h : bs[i]? = some b) : putT (.mk bs) (i :: w) s = .mk (bs.set i (putT b w s)) := by
  rw [putT, h]
theorem subT_app : ∀ {w u : List Nat} {t m : Tt}, subT t w = some m → subT t (w ++ u) = subT m u
  | [], u, t, m, h => by rw [subT_nil] at h; cases h; rfl
  | i :: w, u, .mk bs, m, h => by
    obtain ⟨b, h1, h2⟩ := subT_step h
    rw [List.cons_append, subT_cons h1, subT_app h2]
theorem get_set {bs : List Tt} {i : Nat} {b c : Tt} (h : bs[i]? = some b) : (bs.set i c)[i]? = some c := by
  obtain ⟨hi, _⟩ := List.getElem?_eq_some_iff.mp h
  rw [List.getElem?_set_self hi]
theorem subT_put : ∀ {w u : List Nat} {t m s : Tt}, subT t w = some m → subT (putT t (w ++ u) s) w = some (putT m u s)
  | [], u, t, m, s, h => by rw [subT_nil] at h; cases h; rw [List.nil_append, subT_nil]
  | i :: w, u, .mk bs, m, s, h => by
    obtain ⟨b, h1, h2⟩ := subT_step h
    rw [List.cons_append, putT_cons h1, subT_cons (get_set h1), subT_put h2]
theorem putT_put : ∀ {w u : List Nat} {t m s s' : Tt}, subT t w = some m → putT (putT t (w ++ u) s) w s' = putT t w s'
  | [], u, t, m, s, s', h => by rw [putT_nil, putT_nil]
  | i :: w, u, .mk bs, m, s, s', h => by
    obtain ⟨b, h1, h2⟩ := subT_step h
    rw [List.cons_append, putT_cons h1, putT_cons (get_set h1), putT_cons h1, putT_put h2, List.set_set]
/-- a head at the end of a way cut, n copies growing -/
inductive Cut : Tt → List Nat → Nat → Tt → Prop
  | root {bs : List Tt} {i n : Nat} (h : bs[i]? = some (.mk [])) : Cut (.mk bs) [i] n (.mk (bs.eraseIdx i))
  | up {t : Tt} {w : List Nat} {cs bs : List Tt} {j i n : Nat} (h1 : subT t w = some (.mk cs)) (h2 : cs[j]? = some (.mk bs)) (h3 : bs[i]? = some (.mk [])) :
      Cut t (w ++ [j, i]) n (putT t w (.mk (cs.set j (.mk (bs.eraseIdx i)) ++ List.replicate n (.mk (bs.eraseIdx i)))))
theorem cut_of_head (t : Tt) : ∀ w, w ∈ headsT t → ∀ n, ∃ r, Cut t w n r := by
  induction t using Tt.ind with
  | h bs ih =>
    intro w h n
    rw [headsT_mk] at h
    obtain ⟨i, b, h1, h2⟩ := heads_mem h
    rw [Nat.zero_add] at h2
    unfold head1 at h2
    split at h2
    · rename_i c
      have e := bs_empty c
      subst e
      rw [List.mem_singleton] at h2
      rw [h2]
      exact ⟨_, .root h1⟩
    · obtain ⟨u, hu, e⟩ := List.mem_map.mp h2
      obtain ⟨r, hr⟩ := ih b (List.mem_of_getElem? h1) u hu n
      rw [← e]
      cases hr with
      | @root cs i' _ h3 => exact ⟨_, .up (w := []) (cs := bs) (subT_nil _) h1 h3⟩
      | @up _ v cs ds j i' _ h3 h4 h5 => exact ⟨_, .up (w := i :: v) (by rw [subT_cons h1]; exact h3) h4 h5⟩
/-! ### sizes -/
theorem perm_get : ∀ {bs : List Tt} {i : Nat} {b : Tt}, bs[i]? = some b → bs.Perm (b :: bs.eraseIdx i)
  | [], i, b, h => by cases h
  | x :: bs, 0, b, h => by
    have e : x = b := Option.some.inj (by simpa using h)
    rw [e]; exact List.Perm.refl _
  | x :: bs, i + 1, b, h => by
    have := perm_get (bs := bs) (i := i) (b := b) (by simpa using h)
    exact (this.cons x).trans (List.Perm.swap b x _)
theorem perm_set : ∀ {bs : List Tt} {i : Nat} {b c : Tt}, bs[i]? = some b → (bs.set i c).Perm (c :: bs.eraseIdx i)
  | [], i, b, c, h => by cases h
  | x :: bs, 0, b, c, h => List.Perm.refl _
  | x :: bs, i + 1, b, c, h => by
    have := perm_set (bs := bs) (i := i) (b := b) (c := c) h
    exact (this.cons x).trans (List.Perm.swap c x _)
theorem knotsL_perm1 {l m : List Tt} (p : l.Perm m) : knotsL l = knotsL m := by
  induction p with
  | nil => rfl
  | cons x _ ih => rw [knotsL, knotsL, ih]
  | swap x y l => rw [knotsL, knotsL, knotsL, knotsL]; omega
  | trans _ _ ih1 ih2 => rw [ih1, ih2]
theorem knotsL_erase {bs : List Tt} {i : Nat} {b : Tt} (h : bs[i]? = some b) : knotsL (bs.eraseIdx i) + knots b = knotsL bs := by
  have := knotsL_perm1 (perm_get h)
  rw [knotsL] at this
  omega
theorem knotsL_set {bs : List Tt} {i : Nat} {b c : Tt} (h : bs[i]? = some b) : knotsL (bs.set i c) + knots b = knotsL bs + knots c := by
  have h1 := knotsL_perm1 (perm_set (c := c) h)
  have h2 := knotsL_erase h
  rw [knotsL] at h1
  omega
theorem knots_put : ∀ {w : List Nat} {t s s' : Tt}, subT t w = some s → knots (putT t w s') + knots s = knots t + knots s'
  | [], t, s, s', h => by rw [subT_nil] at h; cases h; rw [putT_nil]; omega
  | i :: w, .mk bs, s, s', h => by
    obtain ⟨b, h1, h2⟩ := subT_step h
    rw [putT_cons h1, knots, knots]
    have h3 := knots_put (s' := s') h2
    have h4 := knotsL_set (c := putT b w s') h1
    omega
theorem depthL_set {bs : List Tt} {i : Nat} {b c : Tt} (h : bs[i]? = some b) (hc : depth c ≤ depth b) : depthL (bs.set i c) ≤ depthL bs := by
  refine depthL_iff.mpr fun x hx => ?_
  rcases List.mem_or_eq_of_mem_set hx with hx | e
  · exact depthL_le hx
  · have := depthL_le (List.mem_of_getElem? h)
    rw [e]; omega
theorem depth_put : ∀ {w : List Nat} {t s s' : Tt}, subT t w = some s → depth s' ≤ depth s → depth (putT t w s') ≤ depth t
  | [], t, s, s', h, k => by rw [subT_nil] at h; cases h; rw [putT_nil]; exact k
  | i :: w, .mk bs, s, s', h, k => by
    obtain ⟨b, h1, h2⟩ := subT_step h
    rw [putT_cons h1, depth, depth]
    exact depthL_set h1 (depth_put h2 k)
theorem depthL_erase (bs : List Tt) (i : Nat) : depthL (bs.eraseIdx i) ≤ depthL bs :=
  depthL_iff.mpr fun _ hx => depthL_le (List.mem_of_mem_eraseIdx hx)
theorem knotsL_rep (n : Nat) (t : Tt) : knotsL (List.replicate n t) = n * knots t := by
  induction n with
  | zero => rw [List.replicate_zero, knotsL, Nat.zero_mul]
  | succ n ih => rw [List.replicate_succ, knotsL, ih, Nat.succ_mul]; omega
def bearer (t : Tt) (w : List Nat) : Tt := (subT t w.dropLast).getD (.mk [])
/-- how many knots will be left -/
def sizeT (t : Tt) (w : List Nat) (n : Nat) : Nat := knots t - 1 + (if 1 < w.length then n * (knots (bearer t w) - 1) else 0)
theorem up_drop (w : List Nat) (j i : Nat) : (w ++ [j, i]).dropLast = w ++ [j] := by
  have e : w ++ [j, i] = (w ++ [j]) ++ [i] := by simp
  rw [e, List.dropLast_concat]
theorem up_drop2 (w : List Nat) (j i : Nat) : (w ++ [j, i]).dropLast.dropLast = w := by rw [up_drop, List.dropLast_concat]
theorem up_sub {t : Tt} {w : List Nat} {cs : List Tt} {j : Nat} {b : Tt} (h1 : subT t w = some (.mk cs)) (h2 : cs[j]? = some b) : subT t (w ++ [j]) = some b := by
  rw [subT_app h1, subT_cons h2, subT_nil]
theorem cut_size {t r : Tt} {w : List Nat} {n : Nat} (h : Cut t w n r) : knots r = sizeT t w n := by
  unfold sizeT
  cases h with
  | root h =>
    have h1 := knotsL_erase h
    rw [knots, knotsL] at h1
    rw [knots, knots, List.length_singleton, if_neg (by decide)]
    omega
  | @up _ w cs bs j i _ h1 h2 h3 =>
    have e1 : bearer t (w ++ [j, i]) = .mk bs := by
      unfold bearer
      rw [up_drop, up_sub h1 h2]
      rfl
    have k1 := knotsL_erase h3
    rw [knots, knotsL] at k1
    have k2 := knotsL_set (c := .mk (bs.eraseIdx i)) h2
    have k3 := knots_put (s' := .mk (cs.set j (.mk (bs.eraseIdx i)) ++ List.replicate n (.mk (bs.eraseIdx i)))) h1
    have e2 : 1 + knotsL bs - 1 = 1 + knotsL (bs.eraseIdx i) := by omega
    have k4 := depth_knots1 t
    rw [e1, if_pos (by simp)]
    rw [knots, knots, knotsL_append, knotsL_rep, knots] at k3
    rw [knots, knots] at k2
    rw [knots, e2]
    omega
theorem cut_depth {t r : Tt} {w : List Nat} {n : Nat} (h : Cut t w n r) : depth r ≤ depth t := by
  cases h with
  | root h => rw [depth, depth]; exact depthL_erase _ _
  | @up _ w cs bs j i _ h1 h2 h3 =>
    refine depth_put h1 ?_
    have d1 : depth (.mk (bs.eraseIdx i)) ≤ depth (.mk bs) := by rw [depth, depth]; exact depthL_erase _ _
    have d2 := depthL_le (List.mem_of_getElem? h2)
    rw [depth, depth, depthL_append]
    have d3 := depthL_set h2 d1
    have d4 : depthL (List.replicate n (.mk (bs.eraseIdx i))) ≤ depthL cs := depthL_iff.mpr fun x hx => by
      rw [List.eq_of_mem_replicate hx]; omega
    omega
/-! ### what is left is worth less -/
theorem toldL_perm2 {l m : List Tt} (p : l.Perm m) : toldL [] l = toldL [] m := by
  refine sd_unique _ _ (toldL_sd _ _ List.Pairwise.nil) (toldL_sd _ _ List.Pairwise.nil) ?_
  refine (toldL_perm l []).trans (List.Perm.trans ?_ (toldL_perm m []).symm)
  rw [List.nil_append, List.nil_append]
  exact p.map told
theorem lt_head {y : Tt} : ∀ {Z M : List Tt}, (∀ z, z ∈ Z → cmp z y < 0) → cmpL Z (y :: M) < 0
  | [], M, _ => by rw [cmpL_nil, List.length_cons]; omega
  | z :: Z, M, h => by
    have := h z List.mem_cons_self
    rw [cmpL_cons, if_pos (by omega)]
    exact this
theorem foldins_top {a : Tt} : ∀ (X L : List Tt), (∀ x, x ∈ X → 0 ≤ cmp a x) → X.foldl (fun l x => ins x l) (a :: L) = a :: X.foldl (fun l x => ins x l) L
  | [], L, _ => rfl
  | x :: X, L, h => by
    rw [List.foldl_cons, List.foldl_cons]
    have e : ins x (a :: L) = a :: ins x L := by
      show (if 0 ≤ cmp a x then a :: ins x L else x :: a :: L) = _
      rw [if_pos (h x List.mem_cons_self)]
    rw [e, foldins_top X _ fun z hz => h z (List.mem_cons_of_mem _ hz)]
theorem ins_lt {y : Tt} : ∀ (L X : List Tt), Sd L → (∀ x, x ∈ X → cmp x y < 0) → cmpL (X.foldl (fun l x => ins x l) L) (ins y L) < 0
  | [], X, _, h => by
    refine lt_head fun z hz => ?_
    have := (foldins_perm X []).mem_iff.mp hz
    rw [List.nil_append] at this
    exact h z this
  | a :: L, X, s, h => by
    obtain ⟨s1, s2⟩ := List.pairwise_cons.mp s
    by_cases c : 0 ≤ cmp a y
    · have e : ins y (a :: L) = a :: ins y L := by
        show (if 0 ≤ cmp a y then a :: ins y L else y :: a :: L) = _
        rw [if_pos c]
      rw [e, foldins_top X L, cmpL_cons, if_neg (by rw [cmp_self]; simp)]
      · exact ins_lt L X s2 h
      · intro x hx
        have h1 : ge y x := ge_of_lt (h x hx)
        exact ge_trans c h1
    · have e : ins y (a :: L) = y :: a :: L := by
        show (if 0 ≤ cmp a y then a :: ins y L else y :: a :: L) = _
        rw [if_neg c]
      rw [e]
      refine lt_head fun z hz => ?_
      rcases List.mem_append.mp ((foldins_perm X _).mem_iff.mp hz) with hz | hz
      · rcases List.mem_cons.mp hz with e | hz
        · rw [e]; omega
        · have h1 := s1 z hz
          have h2 : cmp a y < 0 := by omega
          rcases ge_cases h1 with e | h1
          · rw [← e]; exact h2
          · exact cmp_lt_trans h1 h2
      · exact h z hz
/-- some branches instead of one that is worth more than each -/
theorem told_less {bs us rest : List Tt} {b : Tt} (p : bs.Perm (b :: rest)) (q : us.Perm (rest ++ X)) (h : ∀ x, x ∈ X → cmp (told x) (told b) < 0) : cmp (told (.mk us)) (told (.mk bs)) < 0 := by
  rw [told_mk, told_mk, cmp_mk]
  have p2 : bs.Perm (rest ++ [b]) := p.trans (List.perm_append_singleton b rest).symm
  rw [toldL_perm2 p2, toldL_perm2 q, toldL_append, toldL_append, toldL_cons, toldL_nil, toldL_eq X]
  refine ins_lt _ _ (toldL_sd _ _ List.Pairwise.nil) fun x hx => ?_
  obtain ⟨y, hy, e⟩ := List.mem_map.mp hx
  rw [← e]; exact h y hy
theorem told_erase {bs : List Tt} {i : Nat} {b : Tt} (h : bs[i]? = some b) : cmp (told (.mk (bs.eraseIdx i))) (told (.mk bs)) < 0 :=
  told_less (X := []) (perm_get h) (by rw [List.append_nil]) fun x hx => by cases hx
theorem told_set {bs : List Tt} {i : Nat} {b c : Tt} (h : bs[i]? = some b) (hc : cmp (told c) (told b) < 0) : cmp (told (.mk (bs.set i c))) (told (.mk bs)) < 0 :=
  told_less (X := [c]) (perm_get h) ((perm_set h).trans (List.perm_append_singleton c _).symm) fun x hx => by
    rw [List.mem_singleton] at hx
    rw [hx]; exact hc
theorem told_many {bs : List Tt} {i n : Nat} {b c : Tt} (h : bs[i]? = some b) (hc : cmp (told c) (told b) < 0) : cmp (told (.mk (bs.set i c ++ List.replicate n c))) (told (.mk bs)) < 0 := by
  refine told_less (X := List.replicate (n + 1) c) (perm_get h) ?_ fun x hx => by rw [List.eq_of_mem_replicate hx]; exact hc
  refine ((perm_set h).append_right _).trans ?_
  rw [List.replicate_succ, List.cons_append]
  exact (List.perm_middle).symm
theorem told_put : ∀ {w : List Nat} {t s s' : Tt}, subT t w = some s → cmp (told s') (told s) < 0 → cmp (told (putT t w s')) (told t) < 0
  | [], t, s, s', h, k => by rw [subT_nil] at h; cases h; rw [putT_nil]; exact k
  | i :: w, .mk bs, s, s', h, k => by
    obtain ⟨b, h1, h2⟩ := subT_step h
    rw [putT_cons h1]
    exact told_set h1 (told_put h2 k)
theorem cut_less {t r : Tt} {w : List Nat} {n : Nat} (h : Cut t w n r) : cmp (told r) (told t) < 0 := by
  cases h with
  | root h => exact told_erase h
  | up h1 h2 h3 => exact told_put h1 (told_many h2 (told_erase h3))
/-! ### walking down a way -/
def Walk (H : Hp) : V → List Nat → V → Prop
  | v, [], u => v = u
  | v, i :: w, u => ∃ a xs x, v = .ref a ∧ H a = some (.lst xs) ∧ xs[i]? = some x ∧ Walk H x w u
theorem walk_nil {H : Hp} {v u : V} : Walk H v [] u = (v = u) := rfl
theorem walk_cons {H : Hp} {v u : V} {i : Nat} {w : List Nat} : Walk H v (i :: w) u = ∃ a xs x, v = .ref a ∧ H a = some (.lst xs) ∧ xs[i]? = some x ∧ Walk H x w u := rfl
theorem Walk.same {H H' : Hp} (s : Same H H') : ∀ {w : List Nat} {v u : V}, Walk H v w u → Walk H' v w u
  | [], v, u, h => h
  | i :: w, v, u, h => by
    obtain ⟨a, xs, x, e, h1, h2, h3⟩ := h
    exact ⟨a, xs, x, e, s _ _ h1, h2, Walk.same s h3⟩
theorem Walk.app {H : Hp} : ∀ {w w2 : List Nat} {v m u : V}, Walk H v w m → Walk H m w2 u → Walk H v (w ++ w2) u
  | [], w2, v, m, u, h, k => by rw [walk_nil] at h; subst h; exact k
  | i :: w, w2, v, m, u, h, k => by
    obtain ⟨a, xs, x, e, h1, h2, h3⟩ := h
    exact ⟨a, xs, x, e, h1, h2, Walk.app h3 k⟩
theorem Walk.det {H : Hp} : ∀ {w : List Nat} {v u m : V}, Walk H v w u → Walk H v w m → u = m
  | [], v, u, m, h, k => by rw [walk_nil] at h k; rw [← h, ← k]
  | i :: w, v, u, m, h, k => by
    obtain ⟨a, xs, x, rfl, h1, h2, h3⟩ := h
    obtain ⟨b, ys, y, e, k1, k2, k3⟩ := k
    cases e
    rw [h1] at k1
    cases k1
    rw [h2] at k2
    cases k2
    exact Walk.det h3 k3
theorem TreeAt.walk {H : Hp} : ∀ {w : List Nat} {v : V} {t s : Tt}, TreeAt H v t → subT t w = some s → ∃ u, Walk H v w u ∧ TreeAt H u s
  | [], v, t, s, h, e => by rw [subT_nil] at e; cases e; exact ⟨v, rfl, h⟩
  | i :: w, v, .mk bs, s, h, e => by
    obtain ⟨b, h1, h2⟩ := subT_step e
    rw [treeAt_mk] at h
    obtain ⟨a, xs, rfl, ha, hx⟩ := h
    obtain ⟨x, k1, k2⟩ := hx.get' h1
    obtain ⟨u, k3, k4⟩ := TreeAt.walk k2 h2
    exact ⟨u, ⟨a, xs, x, rfl, ha, k1, k3⟩, k4⟩
theorem at_split {α : Type} {l : List α} {i : Nat} {x : α} (h : l[i]? = some x) : l = l.take i ++ x :: l.drop (i + 1) := by
  obtain ⟨hi, e⟩ := List.getElem?_eq_some_iff.mp h
  rw [← e, List.getElem_cons_drop, List.take_append_drop]
theorem set_split {α : Type} {l : List α} {i : Nat} {x y : α} (h : l[i]? = some x) : l.set i y = l.take i ++ y :: l.drop (i + 1) := by
  obtain ⟨hi, _⟩ := List.getElem?_eq_some_iff.mp h
  rw [List.set_eq_take_append_cons_drop, if_pos hi]
theorem erase_split {α : Type} {l : List α} {i : Nat} : l.eraseIdx i = l.take i ++ l.drop (i + 1) := List.eraseIdx_eq_take_drop_succ l i
/-- one branch apart -/
theorem Owns.pick {H : Hp} {vs : List V} {bs : List Tt} {as : List Addr} {i : Nat} {b : Tt} (h : Owns H vs bs as) (e : bs[i]? = some b) :
    ∃ v1 x v2 b1 ab b2, vs = v1 ++ x :: v2 ∧ v1.length = i ∧ as = b1 ++ (ab ++ b2) ∧ Owns H v1 (bs.take i) b1 ∧ Own H x b ab ∧ Owns H v2 (bs.drop (i + 1)) b2 := by
  rw [at_split e] at h
  obtain ⟨v1, v2, b1, b2, rfl, rfl, h1, h2⟩ := h.split
  rw [owns_cons] at h2
  obtain ⟨x, v3, ab, b3, rfl, rfl, h3, h4⟩ := h2
  have hi := (List.getElem?_eq_some_iff.mp e).1
  refine ⟨v1, x, v3, b1, ab, b3, rfl, ?_, rfl, h1, h3, h4⟩
  rw [h1.len, List.length_take]
  omega
theorem Owns.erase {H : Hp} {vs : List V} {bs : List Tt} {as : List Addr} {i : Nat} {b : Tt} (h : Owns H vs bs as) (e : bs[i]? = some b) : ∃ as', Owns H (vs.eraseIdx i) (bs.eraseIdx i) as' ∧ as'.Sublist as := by
  obtain ⟨v1, x, v2, b1, ab, b2, rfl, hl, rfl, h1, h2, h3⟩ := h.pick e
  refine ⟨b1 ++ b2, ?_, (List.Sublist.refl b1).append (List.sublist_append_right ab b2)⟩
  rw [erase_split (l := bs)]
  have ev : (v1 ++ x :: v2).eraseIdx i = v1 ++ v2 := by
    rw [erase_split, ← hl, List.take_left]
    have : (v1 ++ x :: v2).drop (v1.length + 1) = v2 := by
      have e2 : v1 ++ x :: v2 = (v1 ++ [x]) ++ v2 := by simp
      rw [e2]
      have e3 : v1.length + 1 = (v1 ++ [x]).length := by simp
      rw [e3, List.drop_left]
    rw [this]
  rw [ev]
  exact Owns.append h1 h3
theorem Own.focus {H : Hp} : ∀ {w : List Nat} {v : V} {t s : Tt} {as : List Addr}, Own H v t as → subT t w = some s → ∃ u as1 as0 as2, Walk H v w u ∧ as = as1 ++ (as0 ++ as2) ∧ Own H u s as0 ∧
    ∀ (H' : Hp), (∀ c, c ∈ as1 ∨ c ∈ as2 → ∀ o, H c = some o → H' c = some o) → (∀ (s' : Tt) (asn : List Addr), Own H' u s' asn → Own H' v (putT t w s') (as1 ++ (asn ++ as2))) ∧ ∀ w1 w2 m, w = w1 ++ w2 → Walk H v w1 m → Walk H' v w1 m
  | [], v, t, s, as, h, e => by
    rw [subT_nil] at e
    cases e
    refine ⟨v, [], as, [], rfl, by simp, h, fun H' _ => ⟨fun s' asn k => ?_, fun w1 w2 m e k => ?_⟩⟩
    · rw [putT_nil, List.nil_append, List.append_nil]; exact k
    · have e1 := (List.append_eq_nil_iff.mp e.symm).1
      subst e1
      rw [walk_nil] at k ⊢; exact k
  | i :: w, v, .mk bs, s, as, h, e => by
    obtain ⟨b, h1, h2⟩ := subT_step e
    rw [own_mk] at h
    obtain ⟨a, vs, asb, rfl, rfl, ha, hb⟩ := h
    obtain ⟨v1, x, v2, b1, ab, b2, rfl, hl, rfl, o1, o2, o3⟩ := hb.pick h1
    obtain ⟨u, as1, as0, as2, k1, rfl, k3, k4⟩ := Own.focus o2 h2
    have hx : (v1 ++ x :: v2)[i]? = some x := by rw [← hl]; simp
    refine ⟨u, a :: (b1 ++ as1), as0, as2 ++ b2, ⟨a, _, x, rfl, ha, hx, k1⟩, by simp, k3, fun H' fr => ?_⟩
    have F := k4 H' (fun c hc o q => fr c (hc.elim (fun z => .inl (by simp [z])) (fun z => .inr (by simp [z]))) o q)
    refine ⟨fun s' asn on => ?_, fun w1 w2 m ew k => ?_⟩
    · have o := F.1 s' asn on
      rw [putT_cons h1, own_mk]
      refine ⟨a, v1 ++ x :: v2, b1 ++ ((as1 ++ (asn ++ as2)) ++ b2), rfl, by simp, fr a (.inl List.mem_cons_self) _ ha, ?_⟩
      rw [set_split h1]
      refine Owns.append (Owns.frame _ o1 fun c hc o q => fr c (.inl (by simp [hc])) o q) ?_
      rw [owns_cons]
      exact ⟨x, v2, _, _, rfl, rfl, o, Owns.frame _ o3 fun c hc o q => fr c (.inr (by simp [hc])) o q⟩
    · cases w1 with
      | nil => rw [walk_nil] at k ⊢; exact k
      | cons y w1 =>
        injection ew with e1 e2
        subst e1
        obtain ⟨a', xs', x', e3, g1, g2, g3⟩ := k
        cases e3
        rw [ha] at g1
        cases g1
        rw [hx] at g2
        cases g2
        exact ⟨a, _, x, rfl, fr a (.inl List.mem_cons_self) _ ha, hx, F.2 w1 w2 m e2 g3⟩
theorem Walk.split {H : Hp} : ∀ {w w2 : List Nat} {v u : V}, Walk H v (w ++ w2) u → ∃ m, Walk H v w m ∧ Walk H m w2 u
  | [], w2, v, u, h => ⟨v, rfl, h⟩
  | i :: w, w2, v, u, h => by
    obtain ⟨a, xs, x, e, h1, h2, h3⟩ := h
    obtain ⟨m, k1, k2⟩ := Walk.split (w := w) h3
    exact ⟨m, ⟨a, xs, x, e, h1, h2, k1⟩, k2⟩
/-- a list D that stood there, new trees put behind -/
def GrowAt (H H' : Hp) (D : Addr) (xs zs : List V) (ts : List Tt) : Prop := (∀ c o, c ≠ D → H c = some o → H' c = some o) ∧ H' D = some (.lst (xs ++ zs)) ∧ ∃ bs, Owns H' zs ts bs ∧ bs.Nodup ∧ ∀ a, a ∈ bs → H a = none
theorem GrowAt.start {H : Hp} {D : Addr} {xs : List V} (h : H D = some (.lst xs)) : GrowAt H H D xs [] [] :=
  ⟨fun _ _ _ e => e, by rw [List.append_nil]; exact h, [], by rw [owns_nil]; exact ⟨rfl, rfl⟩, List.nodup_nil, fun a ha => by cases ha⟩
theorem GrowAt.ext {H H2 : Hp} {D : Addr} {xs zs : List V} {ts : List Tt} {bs : List Addr} (h : H D = some (.lst xs)) (s : Same H H2) (o : Owns H2 zs ts bs) (nd : bs.Nodup) (fr : ∀ a, a ∈ bs → H a = none) : GrowAt H (upd H2 D (.lst (xs ++ zs))) D xs zs ts := by
  have nD : D ∉ bs := fun hb => by have := fr D hb; rw [h] at this; cases this
  refine ⟨fun c o hc e => by rw [upd_ne hc]; exact s _ _ e, upd_same, bs, ?_, nd, fr⟩
  exact Owns.frame _ o fun c hc u q => by rw [upd_ne (fun e => nD (by rw [← e]; exact hc))]; exact q
theorem GrowAt.more {H H' H2 : Hp} {D : Addr} {xs zs : List V} {ts : List Tt} {v : V} {t : Tt} (h : H D = some (.lst xs)) (g : GrowAt H H' D xs zs ts) (n : New H' H2 v t) :
    H2 D = some (.lst (xs ++ zs)) ∧ GrowAt H (upd H2 D (.lst (xs ++ zs ++ [v]))) D xs (zs ++ [v]) (ts ++ [t]) := by
  obtain ⟨k, hD, bs, ow, nd, fr⟩ := g
  obtain ⟨s, b2, o, nb, fb⟩ := n
  have nD : D ∉ bs := fun hb => by have := fr D hb; rw [h] at this; cases this
  have nD2 : D ∉ b2 := fun hb => by have := fb D hb; rw [hD] at this; cases this
  have tr := Owns.tracked ts ow
  refine ⟨s _ _ hD, fun c o hc e => by rw [upd_ne hc]; exact s _ _ (k c o hc e), by rw [upd_same, List.append_assoc], bs ++ b2, ?_, ?_, ?_⟩
  · refine Owns.append (Owns.frame _ ow fun c hc u q => ?_) (Owns.one (Own.frame _ o fun c hc u q => ?_))
    · rw [upd_ne (fun e => nD (by rw [← e]; exact hc))]; exact s _ _ q
    · rw [upd_ne (fun e => nD2 (by rw [← e]; exact hc))]; exact q
  · refine List.nodup_append.mpr ⟨nd, nb, fun a ha c hc e => ?_⟩
    obtain ⟨l, q⟩ := tr a ha
    rw [e, fb c hc] at q; cases q
  · intro a ha
    rcases List.mem_append.mp ha with ha | ha
    · exact fr a ha
    · cases e : H a with
      | none => rfl
      | some o =>
        have q := k a o (fun z => nD2 (by rw [← z]; exact ha)) e
        rw [fb a ha] at q; cases q
/-- a new tree changed at the end of a way -/
theorem New.knot {H0 H : Hp} {v : V} {t : Tt} {w : List Nat} {bs : List Tt} (n : New H0 H v t) (hs : subT t w = some (.mk bs)) : ∃ au xs, Walk H v w (.ref au) ∧ H au = some (.lst xs) ∧ TreesAt H xs bs ∧ H0 au = none ∧
    (∀ i b, bs[i]? = some b → New H0 (upd H au (.lst (xs.eraseIdx i))) v (putT t w (.mk (bs.eraseIdx i))) ∧ TreeAt (upd H au (.lst (xs.eraseIdx i))) (.ref au) (.mk (bs.eraseIdx i)) ∧ ∀ w1 w2 m, w = w1 ++ w2 → Walk H v w1 m → Walk (upd H au (.lst (xs.eraseIdx i))) v w1 m) ∧
    ∀ (H' : Hp) (zs : List V) (ts : List Tt), GrowAt H H' au xs zs ts → New H0 H' v (putT t w (.mk (bs ++ ts))) ∧ ∀ w1 w2 m, w = w1 ++ w2 → Walk H v w1 m → Walk H' v w1 m := by
  obtain ⟨s0, as, ow, nd, fr⟩ := n
  obtain ⟨u, as1, as0, as2, k1, rfl, k3, k4⟩ := Own.focus ow hs
  rw [own_mk] at k3
  obtain ⟨au, xs, asr, rfl, rfl, ha, hx⟩ := k3
  have hau0 : H0 au = none := fr au (by simp)
  obtain ⟨n1, n2, n12⟩ := List.nodup_append.mp nd
  obtain ⟨n3, n4, n34⟩ := List.nodup_append.mp n2
  obtain ⟨n5, n6⟩ := List.nodup_cons.mp n3
  have off : ∀ c, c ∈ as1 ∨ c ∈ as2 → c ≠ au := fun c hc e => by
    subst e
    rcases hc with hc | hc
    · exact n12 c hc c (by simp) rfl
    · exact n34 c List.mem_cons_self c hc rfl
  have tr : ∀ c, c ∈ as1 ++ ((au :: asr) ++ as2) → ∃ l, H c = some (.lst l) := Own.tracked t ow
  refine ⟨au, xs, k1, ha, Owns.at_ _ hx, hau0, fun i b hb => ?_, fun H' zs ts g => ?_⟩
  · obtain ⟨asr', o', sl⟩ := hx.erase hb
    have keep : ∀ c, c ≠ au → ∀ o, H c = some o → upd H au (.lst (xs.eraseIdx i)) c = some o := fun c hc o q => by rw [upd_ne hc]; exact q
    have sl2 : (as1 ++ ((au :: asr') ++ as2)).Sublist (as1 ++ ((au :: asr) ++ as2)) := (List.Sublist.refl _).append ((sl.cons₂ au).append (List.Sublist.refl _))
    have F := k4 (upd H au (.lst (xs.eraseIdx i))) (fun c hc o q => keep c (off c hc) o q)
    have on : Own (upd H au (.lst (xs.eraseIdx i))) (.ref au) (.mk (bs.eraseIdx i)) (au :: asr') := by
      rw [own_mk]
      exact ⟨au, _, asr', rfl, rfl, upd_same, Owns.frame _ o' fun c hc o q => keep c (fun e => n5 (by rw [← e]; exact sl.subset hc)) o q⟩
    exact ⟨⟨fun c o q => keep c (ne_of_none q hau0) o (s0 _ _ q), as1 ++ ((au :: asr') ++ as2), F.1 _ _ on, sl2.nodup nd, fun c hc => fr c (sl2.subset hc)⟩, Own.at_ _ on, F.2⟩
  · obtain ⟨keep, hD, bs2, oz, nz, fz⟩ := g
    have dis : ∀ c, c ∈ bs2 → ∀ d, d ∈ as1 ++ ((au :: asr) ++ as2) → d ≠ c := fun c hc d hd e => by
      obtain ⟨l, q⟩ := tr d hd
      rw [e, fz c hc] at q; cases q
    have F := k4 H' (fun c hc o q => keep c o (off c hc) q)
    have on : Own H' (.ref au) (.mk (bs ++ ts)) (au :: (asr ++ bs2)) := by
      rw [own_mk]
      exact ⟨au, _, asr ++ bs2, rfl, rfl, hD, Owns.append (Owns.frame _ hx fun c hc o q => keep c o (fun e => n5 (by rw [← e]; exact hc)) q) oz⟩
    refine ⟨⟨fun c o q => keep c o (ne_of_none q hau0) (s0 _ _ q), as1 ++ ((au :: (asr ++ bs2)) ++ as2), F.1 _ _ on, ?_, ?_⟩, F.2⟩
    · have p : (as1 ++ ((au :: (asr ++ bs2)) ++ as2)).Perm ((as1 ++ ((au :: asr) ++ as2)) ++ bs2) := by
        have e1 : as1 ++ ((au :: (asr ++ bs2)) ++ as2) = (as1 ++ (au :: asr)) ++ (bs2 ++ as2) := by simp
        have e2 : (as1 ++ ((au :: asr) ++ as2)) ++ bs2 = (as1 ++ (au :: asr)) ++ (as2 ++ bs2) := by simp
        rw [e1, e2]
        exact List.perm_append_comm.append_left _
      exact p.nodup_iff.mpr (List.nodup_append.mpr ⟨nd, nz, fun d hd c hc e => dis c hc d hd e⟩)
    · intro c hc
      have : c ∈ as1 ++ ((au :: asr) ++ as2) ∨ c ∈ bs2 := by
        simp only [List.mem_append, List.mem_cons] at hc ⊢
        rcases hc with h | (h | h | h) | h
        · exact .inl (.inl h)
        · exact .inl (.inr (.inl (.inl h)))
        · exact .inl (.inr (.inl (.inr h)))
        · exact .inr h
        · exact .inl (.inr (.inr h))
      rcases this with h | h
      · exact fr c h
      · exact s0.free (fz c h)
/-! ### lists of ways -/
def WaysR (H : Hp) : List Addr → List (List Int) → Prop
  | [], [] => True
  | r :: rs, w :: ws => H r = some (.lst (w.map V.int)) ∧ WaysR H rs ws
  | _, _ => False
theorem WaysR.len {H : Hp} : ∀ {rs : List Addr} {ws : List (List Int)}, WaysR H rs ws → rs.length = ws.length
  | [], [], _ => rfl
  | [], _ :: _, h => h.elim
  | _ :: _, [], h => h.elim
  | r :: rs, w :: ws, h => by rw [List.length_cons, List.length_cons, WaysR.len h.2]
theorem WaysR.frame {H H' : Hp} : ∀ {rs : List Addr} {ws : List (List Int)}, WaysR H rs ws → (∀ r, r ∈ rs → ∀ o, H r = some o → H' r = some o) → WaysR H' rs ws
  | [], [], _, _ => trivial
  | [], _ :: _, h, _ => h.elim
  | _ :: _, [], h, _ => h.elim
  | r :: rs, w :: ws, h, k => ⟨k r List.mem_cons_self _ h.1, WaysR.frame h.2 fun c hc => k c (List.mem_cons_of_mem _ hc)⟩
theorem WaysR.append {H : Hp} : ∀ {rs ss : List Addr} {ws us : List (List Int)}, WaysR H rs ws → WaysR H ss us → WaysR H (rs ++ ss) (ws ++ us)
  | [], ss, [], us, _, k => k
  | [], _, _ :: _, _, h, _ => h.elim
  | _ :: _, _, [], _, h, _ => h.elim
  | r :: rs, ss, w :: ws, us, h, k => ⟨h.1, WaysR.append h.2 k⟩
theorem WaysR.get {H : Hp} : ∀ {rs : List Addr} {ws : List (List Int)} {i : Nat} {r : Addr}, WaysR H rs ws → rs[i]? = some r → ∃ w, ws[i]? = some w ∧ H r = some (.lst (w.map V.int))
  | [], _, i, r, _, e => by cases e
  | _ :: _, [], i, r, h, _ => h.elim
  | x :: rs, w :: ws, 0, r, h, e => by
    have e' : x = r := Option.some.inj (by simpa using e)
    exact ⟨w, rfl, e' ▸ h.1⟩
  | x :: rs, w :: ws, i + 1, r, h, e => by
    obtain ⟨u, k1, k2⟩ := WaysR.get (i := i) (r := r) h.2 (by simpa using e)
    exact ⟨u, by simpa using k1, k2⟩
theorem WaysR.drop {H : Hp} : ∀ (n : Nat) {rs : List Addr} {ws : List (List Int)}, WaysR H rs ws → WaysR H (rs.drop n) (ws.drop n)
  | 0, _, _, h => h
  | n + 1, [], [], _ => trivial
  | n + 1, [], _ :: _, h => h.elim
  | n + 1, _ :: _, [], h => h.elim
  | n + 1, r :: rs, w :: ws, h => WaysR.drop n h.2
/-- a list of ways made anew -/
def NewW (H H' : Hp) (D : Addr) (rs : List Addr) (ws : List (List Int)) : Prop := Same H H' ∧ H D = none ∧ H' D = some (.lst (rs.map V.ref)) ∧ WaysR H' rs ws ∧ (D :: rs).Nodup ∧ ∀ r, r ∈ rs → H r = none
theorem NewW.start {H : Hp} {D : Addr} (h : H D = none) : NewW H (upd H D (.lst [])) D [] [] := ⟨same_new h _, h, upd_same, trivial, by simp, fun r hr => by cases hr⟩
theorem NewW.step {H H' H2 : Hp} {D : Addr} {rs : List Addr} {ws : List (List Int)} (n : NewW H H' D rs ws) (s : Same H' H2) : NewW H H2 D rs ws := by
  obtain ⟨s0, hD, h1, h2, nd, fr⟩ := n
  exact ⟨s0.trans s, hD, s _ _ h1, h2.frame fun r _ o q => s _ _ q, nd, fr⟩
theorem NewW.of {H0 H H' : Hp} {D : Addr} {rs : List Addr} {ws : List (List Int)} (n : NewW H H' D rs ws) (s : Same H0 H) : NewW H0 H' D rs ws := by
  obtain ⟨s0, hD, h1, h2, nd, fr⟩ := n
  exact ⟨s.trans s0, s.free hD, h1, h2, nd, fun r hr => s.free (fr r hr)⟩
theorem WaysR.some {H : Hp} : ∀ {rs : List Addr} {ws : List (List Int)}, WaysR H rs ws → ∀ r, r ∈ rs → ∃ l, H r = some (.lst l)
  | [], _, _, r, hr => by cases hr
  | _ :: _, [], h, _, _ => h.elim
  | x :: rs, w :: ws, h, r, hr => by
    rcases List.mem_cons.mp hr with e | hr
    · rw [e]; exact ⟨_, h.1⟩
    · exact WaysR.some h.2 r hr
/-- new ways put behind -/
theorem NewW.join {H H' H2 : Hp} {D : Addr} {rs ss : List Addr} {ws us : List (List Int)} (n : NewW H H' D rs ws) (s : Same H' H2) (k : WaysR H2 ss us) (nd2 : ss.Nodup) (fr2 : ∀ r, r ∈ ss → H' r = none) : NewW H (upd H2 D (.lst ((rs ++ ss).map V.ref))) D (rs ++ ss) (ws ++ us) := by
  obtain ⟨s0, hD, h1, h2, nd, fr⟩ := n
  obtain ⟨n1, n2⟩ := List.nodup_cons.mp nd
  have keep : ∀ c, c ≠ D → ∀ o, H2 c = some o → upd H2 D (.lst ((rs ++ ss).map V.ref)) c = some o := fun c hc o q => by rw [upd_ne hc]; exact q
  have ne2 : ∀ c, c ∈ ss → c ≠ D := fun c hc e => by have := fr2 c hc; rw [e, h1] at this; cases this
  refine ⟨fun c o q => keep c (ne_of_none q hD) o (s _ _ (s0 _ _ q)), hD, upd_same, WaysR.append (h2.frame fun r hr o q => keep r (fun e => n1 (e ▸ hr)) o (s _ _ q)) (k.frame fun r hr o q => keep r (ne2 r hr) o q), ?_, fun r hr => ?_⟩
  · refine List.nodup_cons.mpr ⟨fun h => ?_, List.nodup_append.mpr ⟨n2, nd2, fun a ha b hb e => ?_⟩⟩
    · rcases List.mem_append.mp h with h | h
      · exact n1 h
      · exact ne2 D h rfl
    · obtain ⟨l, q⟩ := h2.some a ha
      rw [e, fr2 b hb] at q; cases q
  · rcases List.mem_append.mp hr with h | h
    · exact fr r h
    · exact s0.free (fr2 r h)
def waysD (ws : List (List Int)) : List PyData := ws.map fun w => .list (w.map PyData.int)
theorem WaysR.dp {K : PySem.W.Frag} {H : Hp} : ∀ {rs : List Addr} {ws : List (List Int)}, WaysR H rs ws → DpAll K H (rs.map V.ref) (waysD ws)
  | [], [], _ => .nil
  | [], _ :: _, h => h.elim
  | _ :: _, [], h => h.elim
  | r :: rs, w :: ws, h => .cons (.lst (SqL.of h.1) (dpInts w)) (WaysR.dp h.2)
theorem waysLay : ∀ ws : List (List Int), PyData.canLayAll0 (waysD ws) = true
  | [] => by unfold waysD; rw [List.map_nil, PyData.canLayAll0]
  | w :: ws => by
    have := waysLay ws
    unfold waysD at this ⊢
    rw [List.map_cons, PyData.canLayAll0, PyData.canLay0, intsLay, this]; rfl
theorem waysDepth : ∀ ws : List (List Int), PyData.depthAll (waysD ws) ≤ 1
  | [] => by unfold waysD; rw [List.map_nil, PyData.depthAll]; omega
  | w :: ws => by
    have := waysDepth ws
    unfold waysD at this ⊢
    rw [List.map_cons, PyData.depthAll, PyData.depth, intsDepth]
    omega
theorem waysShaped (ws : List (List Int)) : SeqAt.shaped (.list (waysD ws)) = true := by
  show (PyData.canLay0 (.list (waysD ws)) && decide (PyData.depth (.list (waysD ws)) ≤ 64)) = true
  have h := waysDepth ws
  rw [PyData.canLay0, PyData.depth, waysLay, Bool.true_and]
  exact decide_eq_true (by omega)
theorem waysEqv : ∀ ws us : List (List Int), PyData.eqvAll (waysD ws) (waysD us) = decide (ws = us)
  | [], [] => by unfold waysD; simp [PyData.eqvAll]
  | [], u :: us => by unfold waysD; simp [PyData.eqvAll]
  | w :: ws, [] => by unfold waysD; simp [PyData.eqvAll]
  | w :: ws, u :: us => by
    have := waysEqv ws us
    unfold waysD at this ⊢
    rw [List.map_cons, List.map_cons, PyData.eqvAll, PyData.eqv, intsEqv, this]
    by_cases h : w = u
    · subst h; simp
    · simp [h]
theorem eq_ways {K : PySem.W.Frag} {H : Hp} {a b : Addr} {rs ss : List Addr} {ws us : List (List Int)} {Q : VK} (h1 : SqL K H a (rs.map V.ref)) (k1 : WaysR H rs ws) (h2 : SqL K H b (ss.map V.ref)) (k2 : WaysR H ss us) (q : Q (.bl (decide (ws = us))) H) : rEqD K (.ref a) (.ref b) H Q :=
  ⟨_, _, .lst h1 k1.dp, .lst h2 k2.dp, waysShaped ws, waysShaped us, by rw [PyData.eqv, waysEqv]; exact q⟩
theorem ne_ways {K : PySem.W.Frag} {H : Hp} {a b : Addr} {rs ss : List Addr} {ws us : List (List Int)} {Q : VK} (h1 : SqL K H a (rs.map V.ref)) (k1 : WaysR H rs ws) (h2 : SqL K H b (ss.map V.ref)) (k2 : WaysR H ss us) (q : Q (.bl (!decide (ws = us))) H) : rNeD K (.ref a) (.ref b) H Q :=
  ⟨_, _, .lst h1 k1.dp, .lst h2 k2.dp, waysShaped ws, waysShaped us, by rw [PyData.eqv, waysEqv]; exact q⟩
theorem way_in {ws : List (List Int)} {w : List Int} : ((waysD ws).any fun z => PyData.eqv z (.list (w.map PyData.int))) = decide (w ∈ ws) := by
  unfold waysD
  induction ws with
  | nil => simp
  | cons u ws ih =>
    rw [List.map_cons, List.any_cons, ih, PyData.eqv, intsEqv]
    by_cases h : u = w
    · subst h; simp
    · have : ¬ w = u := fun e => h e.symm
      simp [h, this]
section
variable {P : Program} {w : World} {K : PySem.W.Frag} {mg : Str → Option Value} {base : Heap}
/-! ### is_number -/
inductive NumQ (K : PySem.W.Frag) (H : Hp) : V → Bool → Prop
  | int (i : Int) : NumQ K H (.int i) true
  | bool (b : Bool) : NumQ K H (.bl b) false
  | other {v : V} {ty : Value} (h : TyX K H v ty) (k : PySem.W.kitOne K ty (.type "int") = some false) : NumQ K H v false
def spIsNumber (K : PySem.W.Frag) : Sp := fun vs H Q _ => ∃ v b, vs = [v] ∧ NumQ K H v b ∧ Q (.bl b) H
theorem ok_is_number (T : Txt K mg) : FnOk P w K mg base CX0 1 T.a_is_number T.d_is_number ["thing"] (spIsNumber K) := by
  refine T.F_is_number.ok sc_is_number (fun vs H Q E h => ?_) (fun cdv A outer s H vs Q E hr h => ?_)
  · obtain ⟨v, b, rfl, _⟩ := h; rfl
  obtain ⟨v, b, rfl, hn, q⟩ := h
  refine ⟨_, (pss_one (ps_ret (pe_and (pe_callB (r := rIsi K) call_isi (by rfl) T.z_isinstance (by decide +kernel) (pa_cons (pv 0) (pa_cons (pe_bltn (v := .ty "int") (u := .type "int") (by rfl) T.z_int (by decide +kernel) rfl) pa_nil))) (pe_one (pe_not (pe_callB (r := rIsi K) call_isi (by rfl) T.z_isinstance (by decide +kernel) (pa_cons (pv 0) (pa_cons (pe_bltn (v := .ty "bool") (u := .type "bool") (by rfl) T.z_bool (by decide +kernel) rfl) pa_nil)))))))), ?_⟩
  cases hn with
  | int i =>
    refine ⟨_, rfl, _, _, .type "int", _, true, rfl, ClsV.ty _, .base (.int _), kit_ty (by decide +kernel), _, rfl, iteT ?_⟩
    exact ⟨_, rfl, _, _, .type "int", _, false, rfl, ClsV.ty _, .base (.int _), kit_ty (by decide +kernel), _, rfl, q⟩
  | bool b =>
    refine ⟨_, rfl, _, _, .type "bool", _, true, rfl, ClsV.ty _, .base (.bl _), kit_ty (by decide +kernel), _, rfl, iteT ?_⟩
    exact ⟨_, rfl, _, _, .type "bool", _, true, rfl, ClsV.ty _, .base (.bl _), kit_ty (by decide +kernel), _, rfl, q⟩
  | other h k =>
    exact ⟨_, rfl, _, _, _, _, false, rfl, ClsV.ty _, h, k, _, rfl, iteF q⟩
/-! ### heads_of -/
def wsI (ws : List (List Nat)) : List (List Int) := ws.map wI
def spHeadsOf (n : Nat) : Sp := fun vs H Q _ => ∃ (v : V) (t : Tt), vs = [v] ∧ TreeAt H v t ∧ knots t ≤ 100000 ∧ depth t < n ∧ depth t ≤ 40 ∧ ∀ H' D rs, NewW H H' D rs (wsI (headsT t)) → Q (.ref D) H'
theorem wsI_take1 {ws : List (List Nat)} {k i : Nat} {u : List Nat} (h : ws[i]? = some u) : (ws.take (i + 1)).map (fun w => wI (k :: w)) = (ws.take i).map (fun w => wI (k :: w)) ++ [wI (k :: u)] := by
  rw [take_more h, List.map_append]; rfl
theorem wsI_get {ws : List (List Nat)} {i : Nat} {u : List Int} (h : (wsI ws)[i]? = some u) : ∃ v, ws[i]? = some v ∧ u = wI v := by
  unfold wsI at h
  rw [List.getElem?_map] at h
  cases e : ws[i]? with
  | none => rw [e] at h; cases h
  | some v => rw [e] at h; injection h with h; exact ⟨v, rfl, h.symm⟩
theorem head1_leaf (k : Nat) : head1 k (.mk []) = [[k]] := rfl
theorem head1_not {k : Nat} {b : Tt} (h : b ≠ .mk []) : wsI (head1 k b) = (headsT b).map (fun w => wI (k :: w)) := by
  unfold head1
  rw [if_neg (fun z => h (bs_empty z))]
  unfold wsI
  rw [List.map_map]; rfl
theorem knots_take {bs : List Tt} {i : Nat} : knotsL (bs.take i) ≤ knotsL bs := by
  have := knotsL_append (bs.take i) (bs.drop i)
  rw [List.take_append_drop] at this
  omega
end
section
variable {P : Program} {w : World} {K : PySem.W.Frag} {mg : Str → Option Value} {base : Heap}
/-! ### knot_at -/
def mI (wy : List Nat) : List V := (wI wy).map V.int
theorem mI_app (a b : List Nat) : mI (a ++ b) = mI a ++ mI b := by unfold mI wI; rw [List.map_append, List.map_append]
theorem mI_len (a : List Nat) : (mI a).length = a.length := by unfold mI wI; rw [List.length_map, List.length_map]
theorem mI_get {wy : List Nat} {i : Nat} {x : V} (h : (mI wy)[i]? = some x) : ∃ k, wy[i]? = some k ∧ x = .int (k : Nat) := by
  unfold mI wI at h
  rw [List.getElem?_map, List.getElem?_map] at h
  cases e : wy[i]? with
  | none => rw [e] at h; cases h
  | some k => rw [e] at h; exact ⟨k, rfl, (Option.some.inj h).symm⟩
def spKnotAt (K : PySem.W.Frag) : Sp := fun vs H Q _ => ∃ v b wy u, vs = [v, .ref b] ∧ SqL K H b (mI wy) ∧ Walk H v wy u ∧ Q u H
/-! ### cut_of -/
theorem cutV_m1 (ys : List V) (x : V) : cutV (ys ++ [x]) none (some (-1)) = ys := by
  unfold cutV
  have e : HT.sIx (ys ++ [x]).length (ys ++ [x]).length (some (-1)) = ys.length := by
    show (if (-1 : Int) < 0 then ((-1 : Int) + ((ys ++ [x]).length : Int)).toNat else min (-1 : Int).toNat (ys ++ [x]).length) = _
    rw [if_pos (by decide), List.length_append, List.length_singleton]
    omega
  rw [HT.sIx_none, e, List.drop_zero, Nat.sub_zero, List.take_left]
theorem cutV_m2 (ys : List V) (x y : V) : cutV (ys ++ [x, y]) none (some (-2)) = ys := by
  unfold cutV
  have e : HT.sIx (ys ++ [x, y]).length (ys ++ [x, y]).length (some (-2)) = ys.length := by
    show (if (-2 : Int) < 0 then ((-2 : Int) + ((ys ++ [x, y]).length : Int)).toNat else min (-2 : Int).toNat (ys ++ [x, y]).length) = _
    rw [if_pos (by decide), List.length_append]
    show ((-2 : Int) + ((ys.length + 2 : Nat) : Int)).toNat = _
    omega
  rw [HT.sIx_none, e, List.drop_zero, Nat.sub_zero, List.take_left]
theorem cut_last {t r : Tt} {wy : List Nat} {n : Nat} (h : Cut t wy n r) : ∃ w1 i bs, wy = w1 ++ [i] ∧ subT t w1 = some (.mk bs) ∧ bs[i]? = some (.mk []) ∧
    ((w1 = [] ∧ r = .mk (bs.eraseIdx i) ∧ t = .mk bs) ∨ ∃ w0 j cs, w1 = w0 ++ [j] ∧ subT t w0 = some (.mk cs) ∧ cs[j]? = some (.mk bs) ∧ r = putT t w0 (.mk (cs.set j (.mk (bs.eraseIdx i)) ++ List.replicate n (.mk (bs.eraseIdx i))))) := by
  cases h with
  | @root bs i _ h => exact ⟨[], i, bs, rfl, subT_nil _, h, .inl ⟨rfl, rfl, rfl⟩⟩
  | @up _ w0 cs bs j i _ h1 h2 h3 => exact ⟨w0 ++ [j], i, bs, by simp, up_sub h1 h2, h3, .inr ⟨w0, j, cs, rfl, h1, h2, rfl⟩⟩
theorem sub_knots {t s : Tt} {wy : List Nat} (h : subT t wy = some s) : knots s ≤ knots t := by
  have h1 := knots_put (s' := .mk []) h
  have h2 := depth_knots1 (putT t wy (.mk []))
  have h3 : knots (.mk []) = 1 := by rw [knots, knotsL]
  omega
theorem sub_depth : ∀ {wy : List Nat} {t s : Tt}, subT t wy = some s → depth s + wy.length ≤ depth t
  | [], t, s, h => by rw [subT_nil] at h; cases h; exact Nat.le_refl _
  | i :: wy, .mk bs, s, h => by
    obtain ⟨b, h1, h2⟩ := subT_step h
    have h3 := sub_depth h2
    have h4 := depthL_le (List.mem_of_getElem? h1)
    rw [depth, List.length_cons]
    omega
theorem cut_times {t : Tt} {w0 : List Nat} {cs : List Tt} {s' : Tt} {j n : Nat} (h1 : subT t w0 = some (.mk cs)) : n ≤ knots (putT t w0 (.mk (cs.set j s' ++ List.replicate n s'))) := by
  have h2 := knots_put (s' := .mk (cs.set j s' ++ List.replicate n s')) h1
  have h3 := sub_knots h1
  have h4 := depth_knots1 s'
  have h5 : n ≤ n * knots s' := Nat.le_mul_of_pos_right _ h4
  rw [knots, knots, knotsL_append, knotsL_rep] at h2
  rw [knots] at h3
  omega
def spCutOf : Sp := fun vs H Q _ => ∃ v b t wy n r, vs = [v, .ref b, .int (n : Nat)] ∧ TreeAt H v t ∧ okT t ∧ H b = some (.lst (mI wy)) ∧ Cut t wy n r ∧ knots r ≤ 300 ∧ ∀ H' x, New H H' x r → Q x H'
end
section
variable {P : Program} {w : World} {K : PySem.W.Frag} {mg : Str → Option Value} {base : Heap}
/-- a new tree may be spoilt: what stood before it stays, and what was made behind it -/
theorem New.spoil {H1 H2 H3 : Hp} {v : V} {t : Tt} (n : New H1 H2 v t) (s : Same H2 H3) : ∃ as, Own H3 v t as ∧ as.Nodup ∧
    ∀ H4, (∀ b o, b ∉ as → H3 b = some o → H4 b = some o) → Same H1 H4 ∧ (∀ b o, H2 b = none → H3 b = some o → H4 b = some o) ∧ ∀ {H' : Hp} {u : V} {r : Tt}, New H2 H' u r → Same H' H3 → TreeAt H4 u r := by
  obtain ⟨s12, as, o, nd, fr⟩ := n
  refine ⟨as, Own.frame t o fun a _ u e => s _ _ e, nd, fun H4 k => ?_⟩
  have tr : ∀ b, H2 b = none → b ∉ as := fun b hb h => by obtain ⟨xs, e⟩ := Own.tracked t o b h; rw [hb] at e; cases e
  refine ⟨fun b u e => k b u (fun h => by rw [fr b h] at e; cases e) (s _ _ (s12 _ _ e)), fun b u hb e => k b u (tr b hb) e, fun {H' u r} m s' => ?_⟩
  obtain ⟨s2, bs, o2, _, fr2⟩ := m
  exact Own.at_ r (Own.frame r o2 fun a ha x e => k a x (tr a (fr2 a ha)) (s' _ _ e))
theorem depth41 {t : Tt} (h : okT t) : depth t < 41 := h.dp
theorem dep63 {t : Tt} (h : okT t) : depth t ≤ 63 := Nat.le_trans h.2 (by decide)
theorem knotsL_perm {l m : List Tt} (p : l.Perm m) : knotsL l = knotsL m := by
  induction p with
  | nil => rfl
  | cons x _ ih => rw [knotsL, knotsL, ih]
  | swap x y l => rw [knotsL, knotsL, knotsL, knotsL]; omega
  | trans _ _ ih1 ih2 => rw [ih1, ih2]
theorem knotsL_map {f : Tt → Tt} : ∀ {l : List Tt}, (∀ x, x ∈ l → knots (f x) = knots x) → knotsL (l.map f) = knotsL l
  | [], _ => rfl
  | x :: l, h => by rw [List.map_cons, knotsL, knotsL, h x List.mem_cons_self, knotsL_map fun y hy => h y (List.mem_cons_of_mem _ hy)]
theorem knots_told (t : Tt) : knots (told t) = knots t := by
  induction t using Tt.ind with
  | h l ih =>
    rw [told_mk, knots, knots, knotsL_perm (toldL_perm l []), List.nil_append, knotsL_map ih]
theorem okT_told {t : Tt} (h : okT t) : okT (told t) := ⟨by rw [knots_told]; exact h.1, Nat.le_trans (depth_told_le t) h.2⟩
theorem fit_ok {t : Tt} (h : okT t) : fit t := h.fit
theorem kn_lim {t : Tt} (h : okT t) : knots t ≤ lim - 1 := Nat.le_trans h.1 (by decide)
end
section
variable {P : Program} {w : World} {K : PySem.W.Frag} {mg : Str → Option Value} {base : Heap}
/-! ### what may be no way, no times -/
theorem Same.seqT {H H' : Hp} {a : Addr} {xs : List V} (e : Same H H') (h : SqT K H a xs) : SqT K H' a xs := by
  rcases h with (h | ⟨o, h⟩) | h
  · exact .inl (.inl (e _ _ h))
  · exact .inl (.inr ⟨o, e _ _ h⟩)
  · exact .inr h
mutual
theorem dp_same {H H' : Hp} (s : Same H H') : ∀ {v : V} {d : PyData}, Dp K H v d → Dp K H' v d
  | _, _, .non => .non
  | _, _, .bl b => .bl b
  | _, _, .int i => .int i
  | _, _, .str x => .str x
  | _, _, .lst h k => .lst (s.seq h) (dpAll_same s k)
  | _, _, .tup h k => .tup (Same.seqT s h) (dpAll_same s k)
theorem dpAll_same {H H' : Hp} (s : Same H H') : ∀ {vs : List V} {ds : List PyData}, DpAll K H vs ds → DpAll K H' vs ds
  | _, _, .nil => .nil
  | _, _, .cons h k => .cons (dp_same s h) (dpAll_same s k)
end
theorem units65 {k : Nat} {A : Around} (r : Room k A) : A.units + 65 < cLine := by have := r.un; omega
inductive NoNum (H : Hp) : V → Prop
  | leaf {v : V} (h : Leaf H v) (n : ∀ i, v ≠ .int i) : NoNum H v
  | lst {a : Addr} {xs : List V} (h : H a = some (.lst xs)) : NoNum H (.ref a)
theorem NoNum.same {H H' : Hp} {v : V} (s : Same H H') (h : NoNum H v) : NoNum H' v := by
  cases h with
  | leaf h n => exact .leaf (h.same s) n
  | lst h => exact .lst (s _ _ h)
theorem NoNum.num {H : Hp} {v : V} (h : NoNum H v) : NumQ K H v false := by
  cases h with
  | lst h => exact .other (.base (.lst h)) (kit_ty (by decide +kernel))
  | leaf h n =>
    cases h with
    | non => exact .other (.base .non) (kit_ty (by decide +kernel))
    | bl b => exact .bool b
    | int i => exact absurd rfl (n i)
    | str x => exact .other (.base (.str x)) (kit_ty (by decide +kernel))
    | tup e => exact .other (.base (.tup e)) (kit_ty (by decide +kernel))
    | dK e => exact .other (.base (.dK e)) (kit_ty (by decide +kernel))
inductive NumB (H : Hp) : V → Bool → Prop
  | int (i : Int) : NumB H (.int i) true
  | no {v : V} (h : NoNum H v) : NumB H v false
theorem NumB.num {H : Hp} {v : V} {b : Bool} (h : NumB H v b) : NumQ K H v b := by
  cases h with
  | int i => exact .int i
  | no h => exact h.num
theorem NumB.same {H H' : Hp} {v : V} {b : Bool} (s : Same H H') (h : NumB H v b) : NumB H' v b := by
  cases h with
  | int i => exact .int i
  | no h => exact .no (h.same s)
/-- whether it is refused as a way: no list, not among the heads' ways, or not of numbers -/
def WayB (K : PySem.W.Frag) (H : Hp) (t : Tt) (way : V) (c : Bool) : Prop := (Leaf H way ∧ c = true) ∨ ∃ (b : Addr) (xs : List V) (d : PyData) (bs : List Bool), way = .ref b ∧ H b = some (.lst xs) ∧ Dp K H way d ∧ SeqAt.shaped d = true ∧ xs.length ≤ 1000 ∧ bs.length = xs.length ∧
  (∀ (i : Nat) (x : V), xs[i]? = some x → ∃ y, bs[i]? = some y ∧ NumB H x y) ∧ c = (!((waysD (wsI (headsT t))).any fun z => PyData.eqv z d) || !(bs.all id))
theorem WayB.same {H H' : Hp} {t : Tt} {way : V} {c : Bool} (s : Same H H') (h : WayB K H t way c) : WayB K H' t way c := by
  rcases h with ⟨h, e⟩ | ⟨b, xs, d, bs, e, h1, h2, h3, h4, h5, h6, h7⟩
  · exact .inl ⟨h.same s, e⟩
  · exact .inr ⟨b, xs, d, bs, e, s _ _ h1, dp_same s h2, h3, h4, h5, fun i x hx => let ⟨y, k1, k2⟩ := h6 i x hx; ⟨y, k1, k2.same s⟩, h7⟩
theorem wayB_good {H : Hp} {t : Tt} {b : Addr} {wy : List Nat} (h : H b = some (.lst (mI wy))) (hw : wy ∈ headsT t) (hd : depth t ≤ 40) : WayB K H t (.ref b) false := by
  have lw := (heads_way t wy hw).2
  refine .inr ⟨b, _, _, List.replicate wy.length true, rfl, h, .lst (SqL.of h) (dpInts (wI wy)), intsShaped _, by rw [mI_len]; omega, by rw [List.length_replicate, mI_len], fun i x hx => ?_, ?_⟩
  · obtain ⟨k, hk, rfl⟩ := mI_get hx
    have hi := (List.getElem?_eq_some_iff.mp hk).1
    exact ⟨true, by rw [List.getElem?_replicate, if_pos hi], .int _⟩
  · rw [way_in, decide_eq_true (show wI wy ∈ wsI (headsT t) from List.mem_map_of_mem hw)]
    simp
def NoTimes (H : Hp) (v : V) : Prop := NoNum H v ∨ ∃ i : Int, v = .int i ∧ i < 0
theorem NoTimes.same {H H' : Hp} {v : V} (s : Same H H') (h : NoTimes H v) : NoTimes H' v := h.imp (fun k => k.same s) id
/-! ### cut -/
theorem size_int {t s : Tt} {wy : List Nat} {n : Nat} (hs : subT t wy.dropLast = some s) (hl : 1 < wy.length) : (n : Int) * ((knots s : Int) - 1) + (knots t : Int) - 1 = ((sizeT t wy n : Nat) : Int) := by
  unfold sizeT bearer
  rw [hs, if_pos hl]
  have h1 := depth_knots1 s
  have h2 := depth_knots1 t
  obtain ⟨k, hk⟩ : ∃ k, knots s = k + 1 := ⟨knots s - 1, by omega⟩
  show (n : Int) * ((knots s : Int) - 1) + (knots t : Int) - 1 = ((knots t - 1 + n * (knots s - 1) : Nat) : Int)
  rw [hk]
  have e1 : ((k + 1 : Nat) : Int) - 1 = (k : Int) := by omega
  have e2 : k + 1 - 1 = k := by omega
  rw [e1, e2, ← Int.natCast_mul]
  omega
theorem heads_last {t : Tt} {wy : List Nat} (hw : wy ∈ headsT t) : ∃ w1 i bs, wy = w1 ++ [i] ∧ subT t w1 = some (.mk bs) ∧ bs[i]? = some (.mk []) ∧ (w1 = [] → t = .mk bs) := by
  obtain ⟨r, hr⟩ := cut_of_head t wy hw 0
  obtain ⟨w1, i, bs, h1, h2, h3, h4⟩ := cut_last hr
  refine ⟨w1, i, bs, h1, h2, h3, fun e => ?_⟩
  rcases h4 with ⟨_, _, h⟩ | ⟨w0, j, _, h, _⟩
  · exact h
  · rw [h] at e; simp at e
def spCut (K : PySem.W.Frag) (A1 A2 A3 A4 : Addr) : Sp := fun vs H Q E => ∃ v way times, vs = [v, way, times] ∧ (
  (∃ t, TreeAt H v t ∧ okT t ∧ (
    (∃ b wy, way = .ref b ∧ H b = some (.lst (mI wy)) ∧ wy ∈ headsT t ∧ (
      (∃ n : Nat, times = .int (n : Nat) ∧ Bits (n : Int) 2200000 ∧ ((∃ r, Cut t wy n r ∧ knots r ≤ 300 ∧ ∀ H' x, New H H' x (told r) → Q x H') ∨ (300 < sizeT t wy n ∧ ∀ H', Same H H' → E (.ref A4) none H')))
      ∨ (NoTimes H times ∧ ∀ H', Same H H' → E (.ref A3) none H')))
    ∨ (WayB K H t way true ∧ ∀ H', Same H H' → E (.ref A2) none H')))
  ∨ (Bad H v ∧ ∀ H', Same H H' → E (.ref A1) none H'))
end
/-! ### numbers written by a base: plain -/
def digsW (W : Nat → Tt) (b n : Nat) : Nat → List Tt
  | 0 => []
  | p + 1 => List.replicate (n / b ^ p % b) (W p) ++ digsW W b n p
def WT : Nat → Nat → Nat → Tt
  | 0, _, _ => .mk []
  | f + 1, b, n => .mk (digsW (WT f b) b n n)
def writtenT (b n : Nat) : Tt := WT n b n
theorem pow_gt {b : Nat} (hb : 2 ≤ b) (p : Nat) : p < b ^ p := Nat.lt_of_lt_of_le Nat.lt_two_pow_self (Nat.pow_le_pow_left hb p)
theorem digit_lt {b n q : Nat} (hb : 2 ≤ b) (h : n / b ^ q % b ≠ 0) : q < n ∧ b ^ q ≤ n := by
  have h1 : n / b ^ q ≠ 0 := fun e => h (by rw [e, Nat.zero_mod])
  have h2 : b ^ q ≤ n := by
    by_cases c : n < b ^ q
    · exact absurd (Nat.div_eq_of_lt c) h1
    · omega
  have := pow_gt hb q
  exact ⟨by omega, h2⟩
theorem digsW_congr {W W' : Nat → Tt} {b n : Nat} : ∀ {p : Nat}, (∀ q, q < p → n / b ^ q % b ≠ 0 → W q = W' q) → digsW W b n p = digsW W' b n p
  | 0, _ => rfl
  | p + 1, h => by
    unfold digsW
    rw [digsW_congr fun q hq => h q (by omega)]
    by_cases c : n / b ^ p % b = 0
    · rw [c, List.replicate_zero, List.replicate_zero]
    · rw [h p (by omega) c]
theorem WT_eq {b : Nat} (hb : 2 ≤ b) : ∀ (n f g : Nat), n ≤ f → n ≤ g → WT f b n = WT g b n := by
  intro n
  induction n using Nat.strongRecOn with
  | ind n ih =>
    intro f g hf hg
    cases f with
    | zero =>
      have e : n = 0 := by omega
      subst e
      cases g with
      | zero => rfl
      | succ g => rfl
    | succ f =>
      cases g with
      | zero =>
        have e : n = 0 := by omega
        subst e
        rfl
      | succ g =>
        refine congrArg Tt.mk (digsW_congr fun q hq c => ?_)
        exact ih q (digit_lt hb c).1 f g (by omega) (by omega)
theorem writtenT_eq {b : Nat} (hb : 2 ≤ b) (n : Nat) : writtenT b n = .mk (digsW (writtenT b) b n n) := by
  have e : writtenT b n = WT (n + 1) b n := WT_eq hb n _ _ (Nat.le_refl _) (by omega)
  rw [e]
  refine congrArg Tt.mk (digsW_congr fun q hq c => ?_)
  exact WT_eq hb q _ _ (by omega) (Nat.le_refl _)
theorem digsW_end {W : Nat → Tt} {b n p : Nat} (h : n / b ^ p = 0) (hb : 2 ≤ b) : ∀ k, digsW W b n (p + k) = digsW W b n p
  | 0 => rfl
  | k + 1 => by
    show List.replicate (n / b ^ (p + k) % b) (W (p + k)) ++ digsW W b n (p + k) = _
    rw [digsW_end h hb k]
    have e : n / b ^ (p + k) = 0 := by rw [Nat.pow_add, ← Nat.div_div_eq_div_mul, h, Nat.zero_div]
    rw [e, Nat.zero_mod, List.replicate_zero, List.nil_append]
theorem digsW_whole {W : Nat → Tt} {b n p : Nat} (h : n / b ^ p = 0) (hb : 2 ≤ b) : digsW W b n p = digsW W b n n := by
  have h2 : n / b ^ n = 0 := Nat.div_eq_of_lt (pow_gt hb n)
  by_cases c : p ≤ n
  · have := digsW_end (W := W) h hb (n - p)
    rw [show p + (n - p) = n by omega] at this
    exact this.symm
  · have := digsW_end (W := W) h2 hb (p - n)
    rw [show n + (p - n) = p by omega] at this
    exact this
theorem digsW_mono {W : Nat → Tt} {b n : Nat} : ∀ {p k : Nat}, p ≤ k → knotsL (digsW W b n p) ≤ knotsL (digsW W b n k)
  | p, 0, h => by
    have e : p = 0 := by omega
    rw [e]; exact Nat.le_refl _
  | p, k + 1, h => by
    by_cases c : p = k + 1
    · rw [c]; exact Nat.le_refl _
    · have := digsW_mono (W := W) (b := b) (n := n) (p := p) (k := k) (by omega)
      show _ ≤ knotsL (List.replicate (n / b ^ k % b) (W k) ++ digsW W b n k)
      rw [knotsL_append]
      omega
/-- towers of twos -/
def tw : Nat → Nat
  | 0 => 0
  | k + 1 => 2 ^ tw k
theorem tw_exp {b n p k : Nat} (hb : 2 ≤ b) (h : n < tw (k + 1)) (hp : b ^ p ≤ n) : p < tw k := by
  have h1 : 2 ^ p ≤ n := Nat.le_trans (Nat.pow_le_pow_left hb p) hp
  have h2 : 2 ^ p < 2 ^ tw k := Nat.lt_of_le_of_lt h1 h
  exact (Nat.pow_lt_pow_iff_right (by decide)).mp h2
theorem mem_digsW {W : Nat → Tt} {b n : Nat} {x : Tt} : ∀ {p : Nat}, x ∈ digsW W b n p → ∃ q, q < p ∧ n / b ^ q % b ≠ 0 ∧ x = W q
  | 0, h => by cases h
  | p + 1, h => by
    rcases List.mem_append.mp h with h | h
    · have h1 := List.mem_replicate.mp h
      exact ⟨p, by omega, h1.1, h1.2⟩
    · obtain ⟨q, h1, h2⟩ := mem_digsW h
      exact ⟨q, by omega, h2⟩
theorem written_depth {b : Nat} (hb : 2 ≤ b) : ∀ (k n : Nat), n < tw k → depth (writtenT b n) < k
  | 0, n, h => absurd h (Nat.not_lt_zero _)
  | k + 1, n, h => by
    rw [writtenT_eq hb, depth]
    refine Nat.lt_succ_of_le (depthL_iff.mpr fun x hx => ?_)
    obtain ⟨q, _, h2, rfl⟩ := mem_digsW hx
    exact written_depth hb k q (tw_exp hb h (digit_lt hb h2).2)
/-! ### a heap without one place -/
def hid (l : Addr) (H : Hp) : Hp := fun b => if b = l then none else H b
theorem hid_ne {l b : Addr} {H : Hp} (h : b ≠ l) : hid l H b = H b := if_neg h
theorem hid_self {l : Addr} {H : Hp} : hid l H l = none := if_pos rfl
theorem hid_upd {l D : Addr} {H : Hp} {o : HO} (h : D ≠ l) : hid l (upd H D o) = upd (hid l H) D o := by
  funext b
  by_cases c : b = l
  · subst c
    rw [hid_self, upd_ne (Ne.symm h), hid_self]
  · rw [hid_ne c]
    by_cases d : b = D
    · subst d; rw [upd_same, upd_same]
    · rw [upd_ne d, upd_ne d, hid_ne c]
theorem hid_upd_self {l : Addr} {H : Hp} {o : HO} : hid l (upd H l o) = hid l H := by
  funext b
  by_cases c : b = l
  · subst c; rw [hid_self, hid_self]
  · rw [hid_ne c, hid_ne c, upd_ne c]
theorem hid_kept {l : Addr} {H H' : Hp} (s : Same (hid l H) (hid l H')) : Kept l H H' := fun b o n e => by
  have h : hid l H b = some o := by rw [hid_ne n]; exact e
  have h2 := s _ _ h
  rw [hid_ne n] at h2; exact h2
theorem hid_same {l : Addr} {H H' : Hp} (s : Same H H') : Same (hid l H) (hid l H') := fun b o e => by
  by_cases c : b = l
  · subst c; rw [hid_self] at e; cases e
  · rw [hid_ne c] at e ⊢; exact s _ _ e
theorem hid_of {l b : Addr} {H : Hp} {o : HO} (e : hid l H b = some o) : H b = some o := by
  by_cases c : b = l
  · subst c; rw [hid_self] at e; cases e
  · rw [hid_ne c] at e; exact e
theorem hid_free {l b : Addr} {H : Hp} (h : H b = none) : hid l H b = none := by
  by_cases c : b = l
  · subst c; exact hid_self
  · rw [hid_ne c]; exact h
/-- new trees ahead of a new tree's branches, in a new list -/
theorem New.cat {H H2 H3 : Hp} {f D : Addr} {ts us : List Tt} (nw : New H H2 (.ref f) (.mk ts)) (g : Grow H2 H3 D us) : ∃ acc fv, H3 D = some (.lst acc) ∧ H3 f = some (.lst fv) ∧ acc.length = us.length ∧ fv.length = ts.length ∧
    ∀ G, H3 G = none → New H (upd H3 G (.lst (acc ++ fv))) (.ref G) (.mk (us ++ ts)) := by
  obtain ⟨s23, _, acc, as, hD, ow, nd, fr⟩ := g
  obtain ⟨s12, as2, ow2, nd2, fr2⟩ := nw
  rw [own_mk] at ow2
  obtain ⟨f', fv, as3, ef, rfl, hf, ow3⟩ := ow2
  cases ef
  have tr3 := Owns.tracked _ ow3
  have ow3' := Owns.frame ts ow3 fun a _ u e => s23 _ _ e
  refine ⟨acc, fv, hD, s23 _ _ hf, ow.len, ow3.len, fun G nG => ⟨fun b u e => by rw [upd_ne (ne_of_none (s23 _ _ (s12 _ _ e)) nG)]; exact s23 _ _ (s12 _ _ e), G :: (as ++ as3), ?_, ?_, ?_⟩⟩
  · rw [own_mk]
    refine ⟨G, acc ++ fv, as ++ as3, rfl, rfl, upd_same, ?_⟩
    have keep : ∀ a u, H3 a = some u → upd H3 G (.lst (acc ++ fv)) a = some u := fun a u e => by rw [upd_ne (ne_of_none e nG)]; exact e
    exact Owns.append (Owns.frame us ow fun a _ u e => keep a u e) (Owns.frame ts ow3' fun a _ u e => keep a u e)
  · refine List.nodup_cons.mpr ⟨fun h => ?_, List.nodup_append.mpr ⟨(List.nodup_cons.mp nd).2, (List.nodup_cons.mp nd2).2, fun a ha b hb e => ?_⟩⟩
    · rcases List.mem_append.mp h with h | h
      · obtain ⟨xs, e⟩ := Owns.tracked _ ow G h
        rw [nG] at e; cases e
      · obtain ⟨xs, e⟩ := Owns.tracked _ ow3' G h
        rw [nG] at e; cases e
    · obtain ⟨xs, q⟩ := tr3 b hb
      rw [← e, fr a ha] at q; cases q
  · intro a ha
    rcases List.mem_cons.mp ha with e | ha
    · rw [e]; exact s12.free (s23.free nG)
    · rcases List.mem_append.mp ha with ha | ha
      · exact s12.free (fr a ha)
      · exact fr2 a (List.mem_cons_of_mem _ ha)
/-- a new place was hid: it needn't be -/
theorem New.unhid {l : Addr} {H H1 H' : Hp} {v : V} {t : Tt} (n : New (hid l H1) (hid l H') v t) (nl : H l = none) (s : Same H H1) : New H H' v t := by
  obtain ⟨s1, as, o, nd, fr⟩ := n
  refine ⟨fun b u e => hid_kept s1 b u (ne_of_none e nl) (s _ _ e), as, Own.frame t o fun a _ u e => hid_of e, nd, fun a ha => ?_⟩
  by_cases c : a = l
  · rw [c]; exact nl
  · have := fr a ha
    rw [hid_ne c] at this
    exact s.free this
section
variable {P : Program} {w : World} {K : PySem.W.Frag} {mg : Str → Option Value} {base : Heap}
/-! ### asked_base -/
def NoBase (H : Hp) (v : V) : Prop := NoNum H v ∨ ∃ i : Int, v = .int i ∧ i < 2
def spAskedBase (A : Addr) : Sp := fun vs H Q E => ∃ v, vs = [v] ∧ ((∃ b : Nat, v = .int (b : Nat) ∧ 2 ≤ b ∧ Q .non H) ∨ (NoBase H v ∧ E (.ref A) none H))
theorem ok_asked_base (T : Txt K mg) : FnOk P w K mg base (L2N.CX P w) 2 T.a_asked_base T.d_asked_base ["base"] (spAskedBase T.A_BadBase) := by
  have G_is_number := ok_is_number (P := P) (w := w) (base := base) T
  refine okN T.F_asked_base sc_asked_base (fun vs H Q E h => ?_) (fun cdv A outer s H vs Q E hr h => ?_)
  · obtain ⟨v, rfl, _⟩ := h; rfl
  obtain ⟨v, rfl, h⟩ := h
  have R_is_number : Room 1 _ := hr
  refine ⟨_, (pss_one (ps_if (PW.pt (pw_or (pt_not (pt_val (pe_call G_is_number R_is_number rfl T.m_is_number T.k_is_number T.b_is_number .nil pass0 (pa_cons (pv 0) pa_nil)))) (pw_or1 (pt_cmpR op_lt (pv 0) pe_int (nomark _))))) (pss_one (L2N.ps_raise rfl (L2N.takes_of rfl rfl rfl rfl) (L2N.pmk_own PySem.F.excBase_ValueError T.x_BadBase T.g_BadBase T.k_BadBase (raises_own T.sb_BadBase T.tt_BadBase) (by exact rfl)))) pss_nil)), ?_⟩
  rcases h with ⟨b, rfl, hb, q⟩ | ⟨hn | ⟨i, rfl, hi⟩, q⟩
  · refine ⟨_, rfl, _, true, rfl, .int _, _, rfl, iteF ?_⟩
    refine ⟨_, rfl, _, _, rfl, rfl, _, rfl, ?_⟩
    rw [decide_eq_false (show ¬ (b : Int) < 2 by omega)]
    exact iteF q
  · exact ⟨_, rfl, _, false, rfl, hn.num, _, rfl, iteT (iteT q)⟩
  · refine ⟨_, rfl, _, true, rfl, .int _, _, rfl, iteF ?_⟩
    refine ⟨_, rfl, _, _, rfl, rfl, _, rfl, ?_⟩
    rw [decide_eq_true (show i < 2 from hi)]
    exact iteT q
end
section
variable {P : Program} {w : World} {K : PySem.W.Frag} {mg : Str → Option Value} {base : Heap}
/-! ### written_of, whole: it fits, or it is refused -/
def TooBig (L b n : Nat) : Prop := L < knotsL (digsW (writtenT b) b n n)
def spWrittenOf (A : Addr) (k : Nat) : Sp := fun vs H Q E => ∃ (n b L : Nat) (l : Addr), vs = [.int (n : Nat), .int (b : Nat), .ref l] ∧ 2 ≤ b ∧ Bits (b : Int) 1000 ∧ n < tw k ∧ L ≤ 1000 ∧ H l = some (.lst [.int (L : Nat)]) ∧
  ((knotsL (digsW (writtenT b) b n n) ≤ L ∧ ∀ H' r, New (hid l H) (hid l H') r (writtenT b n) → H' l = some (.lst [.int ((L - knotsL (digsW (writtenT b) b n n) : Nat) : Int)]) → Q r H') ∨ (TooBig L b n ∧ ∀ H', Kept l H H' → E (.ref A) none H'))
theorem ok_written_of (T : Txt K mg) : ∀ k, FnOk P w K mg base (L2N.CX P w) k T.a_written_of T.d_written_of ["number", "base", "left"] (spWrittenOf T.A_TooGreat k)
  | 0 => none_left fun vs H Q E ⟨n, b, L, l, _, _, _, h, _⟩ => absurd h (Nat.not_lt_zero _)
  | k + 1 => by
    have G_written_of := ok_written_of T k
    refine okN T.F_written_of sc_written_of (fun vs H Q E h => ?_) (fun cdv A outer s H vs Q E hr h => ?_)
    · obtain ⟨n, b, L, l, rfl, _⟩ := h; rfl
    obtain ⟨n, b, L, l, rfl, hb2, hbb, hn, hL, hl, h⟩ := h
    have R_written_of : Room k _ := hr
    refine ⟨_, (pss_cons (ps_set (i := 3) sc_written_of.nd rfl (Or.inl rfl) (pe_lst pa_nil))
      (pss_cons (ps_set (i := 4) sc_written_of.nd rfl (Or.inr rfl) pe_int)
      (pss_cons (ps_while (passes_of rfl) (pt_cmpR op_gt (pv 0) pe_int (nomark _)) (pss_cons (ps_set (i := 5) sc_written_of.nd rfl (Or.inl rfl) (pe_op op_mod (pv 0) (pv 1)))
        (pss_cons (ps_asg (pe_op op_sub (pe_ix (r := rIxL K) ix_list (pv 2) pe_int (fun _ _ => rfl)) (pv 5)) (pg_sub (pv 2) pe_int set_list))
        (pss_cons (ps_if (pt_cmpR op_lt (pe_ix (r := rIxL K) ix_list (pv 2) pe_int (fun _ _ => rfl)) pe_int (nomark _)) (pss_one (L2N.ps_raise rfl (L2N.takes_of rfl rfl rfl rfl) (L2N.pmk_own PySem.F.excBase_ValueError T.x_TooGreat T.g_TooGreat T.k_TooGreat (raises_own T.sb_TooGreat T.tt_TooGreat) (by exact rfl)))) pss_nil)
        (pss_cons (ps_set (i := 3) sc_written_of.nd rfl (Or.inl rfl) (pe_op op_cat (pe_lcX (E := E) rfl rfl (L2N.takes_of rfl rfl rfl rfl) (own := [("time", 6)]) (g := gName 6) (tt := tYes) rfl sc_written_of.nd (pi_range1 (by rfl) T.z_range (pa_cons (pv 5) pa_nil)) (blkOk_by (own := [("time", 6)]) (N := ["number", "base", "left", "found", "power", "many", "time"]) (sc := defScope s_written_of) (by decide +kernel)) (fun _ _ _ _ _ => (pg_name (i := 6) sc_written_of.nd rfl (Or.inl rfl))) (fun _ _ _ _ _ => pts_nil) (fun _ _ _ _ _ _ p => (pe_call G_written_of R_written_of rfl T.m_written_of T.k_written_of T.b_written_of .nil p (pa_cons (pv 4) (pa_cons (pv 1) (pa_cons (pv 2) pa_nil)))))) (pv 3)))
        (pss_cons (ps_set (i := 0) sc_written_of.nd rfl (Or.inl rfl) (pe_op op_fdivW (pv 0) (pv 1)))
        (pss_one (ps_set (i := 4) sc_written_of.nd rfl (Or.inr rfl) (pe_op op_add (pv 4) pe_int)))))))))
      (pss_one (ps_ret (pv 3)))))), ?_⟩
    have hbpos : (0 : Int) < (b : Int) := by omega
    refine ⟨(by show 0 ≤ sizeLine; decide), fun F nF => ?_⟩
    have nFl : F ≠ l := fun e => by rw [e, hl] at nF; cases nF
    have hl0 : upd H F (.lst []) l = some (.lst [.int (L : Nat)]) := by rw [upd_ne (Ne.symm nFl)]; exact hl
    have n0 : New (hid l H) (hid l (upd H F (.lst []))) (.ref F) (.mk []) := by
      rw [hid_upd nFl]
      exact (Grow.start (hid_free nF)).done
    have d0 : digsW (writtenT b) b n 0 = [] := rfl
    have e0 : n / b ^ 0 = n := by rw [Nat.pow_zero, Nat.div_one]
    generalize upd H F (.lst []) = H0 at hl0 n0 ⊢
    refine ⟨fun m σ H' => ∃ (p : Nat) (f : Addr) (o5 : Option V), σ = [some (.int ((n / b ^ p : Nat) : Int)), some (.int (b : Nat)), some (.ref l), some (.ref f), some (.int (p : Nat)), o5, none] ∧ m = n / b ^ p ∧
      New (hid l H) (hid l H') (.ref f) (.mk (digsW (writtenT b) b n p)) ∧ knotsL (digsW (writtenT b) b n p) ≤ L ∧ H' l = some (.lst [.int ((L - knotsL (digsW (writtenT b) b n p) : Nat) : Int)]), ?_, ?_⟩
    · refine ⟨n, 0, F, none, by rw [e0]; rfl, by rw [e0], n0, by rw [d0, knotsL]; omega, ?_⟩
      rw [d0, knotsL]; exact hl0
    rintro m σ H1 ⟨p, f, o5, rfl, rfl, nw, hk, hl1⟩
    refine ⟨_, rfl, _, _, rfl, rfl, _, rfl, ite2 (fun c => ?_) (fun c => ?_)⟩
    · have c' : (0 : Int) < ((n / b ^ p : Nat) : Int) := of_decide_eq_true c
      have hpos : 0 < n / b ^ p := by omega
      have hbp : b ^ p ≤ n := by
        by_cases z : n < b ^ p
        · rw [Nat.div_eq_of_lt z] at hpos; omega
        · omega
      have hpn : p < n := by have := pow_gt hb2 p; omega
      have hpk := tw_exp hb2 hn hbp
      have hle : knotsL (digsW (writtenT b) b n (p + 1)) ≤ knotsL (digsW (writtenT b) b n n) := digsW_mono (by omega)
      have hstep : knotsL (digsW (writtenT b) b n (p + 1)) = (n / b ^ p % b) * knots (writtenT b p) + knotsL (digsW (writtenT b) b n p) := by
        show knotsL (List.replicate (n / b ^ p % b) (writtenT b p) ++ digsW (writtenT b) b n p) = _
        rw [knotsL_append, knotsL_rep]
      have kp := depth_knots1 (writtenT b p)
      have kdig : knots (writtenT b p) = 1 + knotsL (digsW (writtenT b) b p p) := by rw [writtenT_eq hb2, knots]
      generalize hmm : n / b ^ p % b = many at hstep
      have hmk : many ≤ many * knots (writtenT b p) := Nat.le_mul_of_pos_right _ kp
      have hmul2 : many * knots (writtenT b p) = many * (knots (writtenT b p) - 1) + many := by
        have : knots (writtenT b p) = (knots (writtenT b p) - 1) + 1 := by omega
        rw [this, Nat.mul_succ, Nat.add_sub_cancel]
      have em : ((n / b ^ p : Nat) : Int) % (b : Int) = (many : Int) := by rw [← hmm]; exact (Int.natCast_emod _ _).symm
      refine ⟨fun σ' H' => ∃ (f : Addr), σ' = [some (.int ((n / b ^ (p + 1) : Nat) : Int)), some (.int (b : Nat)), some (.ref l), some (.ref f), some (.int ((p + 1 : Nat) : Int)), some (.int (many : Nat)), none] ∧
        New (hid l H) (hid l H') (.ref f) (.mk (digsW (writtenT b) b n (p + 1))) ∧ knotsL (digsW (writtenT b) b n (p + 1)) ≤ L ∧ H' l = some (.lst [.int ((L - knotsL (digsW (writtenT b) b n (p + 1)) : Nat) : Int)]), fun σ' H' ⟨f', e, nw', hw', hl'⟩ => ⟨n / b ^ (p + 1), ?_, p + 1, f', _, e, rfl, nw', hw', hl'⟩, ?_⟩
      · rw [Nat.pow_succ, ← Nat.div_div_eq_div_mul]
        exact Nat.div_lt_self hpos hb2
      refine ⟨_, rfl, _, rfl, _, _, rfl, rfl, hbpos, ?_⟩
      show tSeq _ _ _ [_, _, _, _, _, some (V.int (((n / b ^ p : Nat) : Int) % (b : Int))), _] _
      rw [em]
      refine ⟨_, rfl, l, _, 0, _, rfl, rfl, SqL.of hl1, rfl, _, rfl, _, _, rfl, rfl, _, rfl, l, _, 0, 0, rfl, rfl, hl1, rfl, ?_⟩
      have h2 : Same (hid l H1) (hid l (upd H1 l (.lst ([V.int ((L - knotsL (digsW (writtenT b) b n p) : Nat) : Int)].set 0 (.int (((L - knotsL (digsW (writtenT b) b n p) : Nat) : Int) - (many : Int))))))) := by rw [hid_upd_self]; exact Same.refl _
      have hl2 : upd H1 l (.lst ([V.int ((L - knotsL (digsW (writtenT b) b n p) : Nat) : Int)].set 0 (.int (((L - knotsL (digsW (writtenT b) b n p) : Nat) : Int) - (many : Int))))) l = some (.lst [.int (((L - knotsL (digsW (writtenT b) b n p) : Nat) : Int) - (many : Int))]) := by rw [upd_same]; rfl
      generalize upd H1 l (.lst ([V.int ((L - knotsL (digsW (writtenT b) b n p) : Nat) : Int)].set 0 (.int (((L - knotsL (digsW (writtenT b) b n p) : Nat) : Int) - (many : Int))))) = H2 at h2 hl2 ⊢
      have nw2 := nw.step h2
      refine ⟨_, rfl, l, _, 0, _, rfl, rfl, SqL.of hl2, rfl, _, _, rfl, rfl, _, rfl, ?_⟩
      by_cases neg : ((L - knotsL (digsW (writtenT b) b n p) : Nat) : Int) - (many : Int) < 0
      · rw [decide_eq_true neg]
        rcases h with ⟨hfit, _⟩ | ⟨_, q⟩
        · exact absurd hfit (by omega)
        · exact iteT (q _ (hid_kept nw2.1))
      rw [decide_eq_false neg]
      refine iteF ?_
      have e1 : ((L - knotsL (digsW (writtenT b) b n p) : Nat) : Int) - (many : Int) = ((L - knotsL (digsW (writtenT b) b n p) - many : Nat) : Int) := by omega
      rw [e1] at hl2
      refine ⟨_, rfl, _, rfl, by omega, by omega, fun D nD => ?_⟩
      rw [Int.toNat_natCast]
      have nDl : D ≠ l := fun e => by rw [e, hl2] at nD; cases nD
      have hl3 : upd H2 D (.lst []) l = some (.lst [.int ((L - knotsL (digsW (writtenT b) b n p) - many : Nat) : Int)]) := by rw [upd_ne (Ne.symm nDl)]; exact hl2
      refine lc_it walk_range (fun i H' => Grow (hid l H2) (hid l H') D (List.replicate i (writtenT b p)) ∧ ∃ L' : Nat, H' l = some (.lst [.int (L' : Nat)]) ∧ L' + i * (knots (writtenT b p) - 1) = L - knotsL (digsW (writtenT b) b n p) - many) ?_ (fun _ _ _ _ => trivial) ?_ ?_
      · refine ⟨by rw [hid_upd nDl]; exact Grow.start (hid_free nD), _, hl3, by omega⟩
      · rintro i z H3 H4 hi ⟨g, L', hlx, eL⟩ ⟨rfl, rfl⟩
        have hmul : i * (knots (writtenT b p) - 1) + (knots (writtenT b p) - 1) ≤ many * (knots (writtenT b p) - 1) := by
          rw [← Nat.succ_mul]; exact Nat.mul_le_mul_right _ hi
        by_cases fits : knotsL (digsW (writtenT b) b p p) ≤ L'
        · refine ⟨rfl, _, rfl, _, rfl, _, rfl, p, b, L', l, rfl, hb2, hbb, hpk, by omega, hlx, .inl ⟨fits, fun H5 r5 n5 hl5 => ?_⟩⟩
          obtain ⟨acc, h1, h2', h3⟩ := g.more n5
          refine ⟨acc, hid_of h1, ?_, ?_, L' - knotsL (digsW (writtenT b) b p p), ?_, ?_⟩
          · rw [h2', List.length_replicate]
            exact Nat.lt_of_le_of_lt (m := 1000) (by omega) (by decide)
          · rw [hid_upd nDl, List.replicate_succ']; exact h3
          · rw [upd_ne (Ne.symm nDl)]; exact hl5
          · rw [Nat.succ_mul]; omega
        · refine ⟨rfl, _, rfl, _, rfl, _, rfl, p, b, L', l, rfl, hb2, hbb, hpk, by omega, hlx, .inr ⟨by unfold TooBig; omega, fun H5 k5 => ?_⟩⟩
          rcases h with ⟨hfit, _⟩ | ⟨_, q⟩
          · exact absurd hfit (by omega)
          · exact q _ (fun x o nx e => k5 x o nx (hid_kept (nw2.1.trans g.1) x o nx e))
      · rintro H3 ⟨g, L', hlx, eL⟩
        have kl := knotsL_len (digsW (writtenT b) b n p)
        have eb : ((n / b ^ p : Nat) : Int) / (b : Int) = ((n / b ^ (p + 1) : Nat) : Int) := by rw [Nat.pow_succ, ← Nat.div_div_eq_div_mul]; exact (Int.natCast_ediv _ _).symm
        obtain ⟨acc, fv, hD, hf, la, lf, cat⟩ := nw2.cat g
        rw [List.length_replicate] at la
        refine ⟨_, rfl, D, f, acc, fv, rfl, rfl, hid_of hD, hid_of hf, Nat.le_trans (show acc.length + fv.length ≤ 3000 by omega) (by decide), fun G nG => ?_⟩
        have nGl : G ≠ l := fun e => by rw [e, hlx] at nG; cases nG
        have hl4 : upd H3 G (.lst (acc ++ fv)) l = some (.lst [.int (L' : Nat)]) := by rw [upd_ne (Ne.symm nGl)]; exact hlx
        have nw4 : New (hid l H) (hid l (upd H3 G (.lst (acc ++ fv)))) (.ref G) (.mk (digsW (writtenT b) b n (p + 1))) := by
          rw [hid_upd nGl]
          have := cat G (hid_free nG)
          show New _ _ _ (.mk (List.replicate (n / b ^ p % b) (writtenT b p) ++ digsW (writtenT b) b n p))
          rw [hmm]; exact this
        refine ⟨_, rfl, _, rfl, _, _, rfl, rfl, wide_div (b := 1000) hbpos hbb (by decide) (by decide), ?_⟩
        refine ⟨_, rfl, _, _, rfl, rfl, G, ?_, nw4, ?_, ?_⟩
        · show [some (V.int (((n / b ^ p : Nat) : Int) / (b : Int))), _, _, _, some (V.int ((p : Int) + 1)), _, _] = _
          rw [eb]; rfl
        · omega
        · have e5 : L' = L - knotsL (digsW (writtenT b) b n (p + 1)) := by omega
          rw [hl4, e5]
    · have c' : ¬ (0 : Int) < ((n / b ^ p : Nat) : Int) := of_decide_eq_false (Bool.eq_false_iff.mpr c)
      have hz : n / b ^ p = 0 := Nat.eq_zero_of_not_pos fun z => c' (Int.ofNat_lt.mpr z)
      rw [digsW_whole hz hb2] at nw hl1 hk
      rcases h with ⟨_, q⟩ | ⟨hno, _⟩
      · refine ⟨_, rfl, q _ _ ?_ hl1⟩
        rw [writtenT_eq hb2]; exact nw
      · exact absurd hk (Nat.not_le_of_lt hno)
end
/-! ### values: plain -/
def GR : Nat := 2 ^ 400
def okRow (b : Nat) (l : List Tt) : Bool := (List.range l.length).all fun i => !(decide (b ≤ i + 1) && decide (l[i + 1 - b]? = l[i]?))
mutual
def cw (b : Nat) : Tt → Bool
  | .mk l => okRow b l && cwL b l
def cwL (b : Nat) : List Tt → Bool
  | [] => true
  | x :: l => cw b x && cwL b l
end
theorem cw_mk (b : Nat) (l : List Tt) : cw b (.mk l) = (okRow b l && cwL b l) := by rw [cw]
theorem cwL_all (b : Nat) : ∀ l, cwL b l = (l.map (cw b)).all id
  | [] => by rw [cwL]; rfl
  | x :: l => by rw [cwL, cwL_all b l, List.map_cons, List.all_cons]; rfl
theorem okRow_false {b i : Nat} {l : List Tt} (hi : i < l.length) (hb : b ≤ i + 1) (e : l[i + 1 - b]? = l[i]?) : okRow b l = false := by
  unfold okRow
  rw [List.all_eq_false]
  refine ⟨i, List.mem_range.mpr hi, ?_⟩
  rw [decide_eq_true hb, decide_eq_true e]
  decide
theorem okRow_true {b : Nat} {l : List Tt} (h : ∀ i, i < l.length → b ≤ i + 1 → l[i + 1 - b]? ≠ l[i]?) : okRow b l = true := by
  unfold okRow
  rw [List.all_eq_true]
  intro i hi
  have hi' := List.mem_range.mp hi
  by_cases c : b ≤ i + 1
  · rw [decide_eq_false (h i hi' c), Bool.and_false]; rfl
  · rw [decide_eq_false c]; rfl
def powc (b : Nat) : Nat → Nat
  | 0 => 1
  | k + 1 => min (powc b k * b) GR
mutual
def val (b : Nat) : Tt → Nat
  | .mk l => valL b 0 l
def valL (b : Nat) (acc : Nat) : List Tt → Nat
  | [] => acc
  | x :: l => valL b (min (acc + powc b (min (val b x) 401)) GR) l
end
theorem val_mk (b : Nat) (l : List Tt) : val b (.mk l) = valL b 0 l := by rw [val]
theorem valL_nil (b acc : Nat) : valL b acc [] = acc := by rw [valL]
theorem valL_cons (b acc : Nat) (x : Tt) (l : List Tt) : valL b acc (x :: l) = valL b (min (acc + powc b (min (val b x) 401)) GR) l := by rw [valL]
theorem valL_snoc (b : Nat) (x : Tt) : ∀ (l : List Tt) (acc : Nat), valL b acc (l ++ [x]) = min (valL b acc l + powc b (min (val b x) 401)) GR
  | [], acc => by rw [List.nil_append, valL_cons, valL_nil, valL_nil]
  | y :: l, acc => by rw [List.cons_append, valL_cons, valL_snoc b x l, valL_cons]
theorem valL_le (b : Nat) : ∀ (l : List Tt) (acc : Nat), acc ≤ GR → valL b acc l ≤ GR
  | [], acc, h => by rw [valL_nil]; exact h
  | y :: l, acc, h => by rw [valL_cons]; exact valL_le b l _ (Nat.min_le_right _ _)
theorem GR_pos : 1 ≤ GR := by decide +kernel
theorem powc_le (b : Nat) : ∀ k, powc b k ≤ GR
  | 0 => GR_pos
  | k + 1 => Nat.min_le_right _ _
theorem val_le (b : Nat) (t : Tt) : val b t ≤ GR := by
  cases t with
  | mk l => rw [val_mk]; exact valL_le b l 0 (Nat.zero_le _)
theorem min_int (i j : Nat) : (if (j : Int) < (i : Int) then (j : Int) else (i : Int)) = ((min i j : Nat) : Int) := by
  by_cases h : j < i
  · rw [if_pos (by omega)]; omega
  · rw [if_neg (by omega)]; omega
theorem GR_int : (2582249878086908589655919172003011874329705792829223512830659356540647622016841194629645353280137831435903171972747493376 : Int) = ((GR : Nat) : Int) := by decide +kernel
theorem GR_bits : Bits ((GR : Nat) : Int) 401 := by
  show ((GR : Nat) : Int).natAbs < 2 ^ 401
  decide +kernel
def NoNumber (H : Hp) (v : V) : Prop := NoNum H v ∨ ∃ i : Int, v = .int i ∧ (i < 0 ∨ (GR : Int) ≤ i)
section
variable {P : Program} {w : World} {K : PySem.W.Frag} {mg : Str → Option Value} {base : Heap}
/-! ### written -/
theorem NoBase.same {H H' : Hp} {v : V} (s : Same H H') (h : NoBase H v) : NoBase H' v := h.imp (fun k => k.same s) id
def spWritten (A1 A2 A3 : Addr) : Sp := fun vs H Q E => ∃ vn vb, vs = [vn, vb] ∧ (
  (∃ n : Nat, vn = .int (n : Nat) ∧ n < GR ∧ (
    (∃ b : Nat, vb = .int (b : Nat) ∧ 2 ≤ b ∧ Bits (b : Int) 1000 ∧ ((knots (writtenT b n) ≤ 300 ∧ ∀ H' r, New H H' r (writtenT b n) → Q r H') ∨ (TooBig 299 b n ∧ ∀ H', Same H H' → E (.ref A3) none H')))
    ∨ (NoBase H vb ∧ E (.ref A2) none H)))
  ∨ (NoNumber H vn ∧ E (.ref A1) none H))
theorem tw6 {n : Nat} (h : n < GR) : n < tw 6 := by
  have h1 : GR ≤ 2 ^ 65536 := Nat.pow_le_pow_right (by decide) (by decide)
  have h2 : tw 6 = 2 ^ tw 5 := rfl
  have h3 : tw 5 = 65536 := by decide +kernel
  rw [h2, h3]
  omega
theorem ok_written (T : Txt K mg) : FnOk P w K mg base (L2N.CX P w) 7 T.a_written T.d_written ["number", "base"] (spWritten T.A_BadNumber T.A_BadBase T.A_TooGreat) := by
  have G_is_number := ok_is_number (P := P) (w := w) (base := base) T
  have G_asked_base := ok_asked_base (P := P) (w := w) (base := base) T
  have G_written_of := ok_written_of (P := P) (w := w) (base := base) T 6
  refine okN T.F_written sc_written (fun vs H Q E h => ?_) (fun cdv A outer s H vs Q E hr h => ?_)
  · obtain ⟨vn, vb, rfl, _⟩ := h; rfl
  obtain ⟨vn, vb, rfl, h⟩ := h
  have R_is_number : Room 1 _ := hr.mono (by omega)
  have R_asked_base : Room 2 _ := hr.mono (by omega)
  have R_written_of : Room 6 _ := hr
  refine ⟨_, (pss_cons (ps_if (PW.pt (pw_or (pt_not (pt_val (pe_call G_is_number R_is_number rfl T.m_is_number T.k_is_number T.b_is_number .nil pass0 (pa_cons (pv 0) pa_nil)))) (pw_or1 (pt_not (pt_chain op_le op_lt pe_int (pv 0) (pe_glob (v := .int 2582249878086908589655919172003011874329705792829223512830659356540647622016841194629645353280137831435903171972747493376) rfl T.c_GREATEST ⟨_, rfl⟩)))))) (pss_one (L2N.ps_raise rfl (L2N.takes_of rfl rfl rfl rfl) (L2N.pmk_own PySem.F.excBase_ValueError T.x_BadNumber T.g_BadNumber T.k_BadNumber (raises_own T.sb_BadNumber T.tt_BadNumber) (by exact rfl)))) pss_nil)
      (pss_cons (ps_expr (pe_call G_asked_base R_asked_base rfl T.m_asked_base T.k_asked_base T.b_asked_base .nil (L2N.passes_call (L2N.takes_of rfl rfl rfl rfl) (fun _ _ _ _ h => h)) (pa_cons (pv 1) pa_nil)))
      (pss_one (ps_ret (pe_call G_written_of R_written_of rfl T.m_written_of T.k_written_of T.b_written_of .nil (L2N.passes_call (L2N.takes_of rfl rfl rfl rfl) (fun _ _ _ _ h => h)) (pa_cons (pv 0) (pa_cons (pv 1) (pa_cons (pe_lst (pa_cons (pe_op op_sub (pe_glob (v := .int 300) rfl T.c_MOST ⟨_, rfl⟩) pe_int) pa_nil)) pa_nil)))))))), ?_⟩
  rcases h with ⟨n, rfl, hn, h⟩ | ⟨hn | ⟨i, rfl, hi⟩, q⟩
  · refine ⟨_, rfl, _, true, rfl, .int _, _, rfl, iteF ?_⟩
    refine ⟨_, rfl, _, _, rfl, rfl, _, rfl, ?_⟩
    rw [decide_eq_true (show (0 : Int) ≤ (n : Int) by omega)]
    refine iteT ⟨_, _, rfl, rfl, _, rfl, ?_⟩
    rw [decide_eq_true (show (n : Int) < 2582249878086908589655919172003011874329705792829223512830659356540647622016841194629645353280137831435903171972747493376 by rw [GR_int]; omega)]
    refine iteF ?_
    rcases h with ⟨b, rfl, hb, bb, h⟩ | ⟨hb, q⟩
    · refine ⟨_, rfl, _, rfl, .inl ⟨b, rfl, hb, ?_⟩⟩
      refine ⟨_, rfl, _, rfl, _, _, rfl, rfl, (by show 1 ≤ sizeLine; decide), fun l nl => ?_⟩
      have hl : upd H l (.lst [V.int 299]) l = some (.lst [.int ((299 : Nat) : Int)]) := upd_same
      have sl := same_new nl (.lst [V.int 299])
      refine ⟨n, b, 299, l, rfl, hb, bb, tw6 hn, by decide, hl, ?_⟩
      rcases h with ⟨hk, q⟩ | ⟨hk, q⟩
      · refine .inl ⟨?_, fun H' r nw _ => q _ _ (nw.unhid nl sl)⟩
        rw [writtenT_eq hb, knots] at hk
        omega
      · exact .inr ⟨hk, fun H' k => q _ (k.same sl nl)⟩
    · exact ⟨_, rfl, _, rfl, .inr ⟨hb, q⟩⟩
  · exact ⟨_, rfl, _, false, rfl, hn.num, _, rfl, iteT (iteT q)⟩
  · refine ⟨_, rfl, _, true, rfl, .int _, _, rfl, iteF ?_⟩
    refine ⟨_, rfl, _, _, rfl, rfl, _, rfl, ?_⟩
    rcases hi with hi | hi
    · rw [decide_eq_false (show ¬ (0 : Int) ≤ i by omega)]
      exact iteF ⟨_, rfl, iteT q⟩
    · have g0 : (0 : Int) ≤ ((GR : Nat) : Int) := Int.natCast_nonneg _
      rw [decide_eq_true (show (0 : Int) ≤ i by omega)]
      refine iteT ⟨_, _, rfl, rfl, _, rfl, ?_⟩
      rw [decide_eq_false (show ¬ i < 2582249878086908589655919172003011874329705792829223512830659356540647622016841194629645353280137831435903171972747493376 by rw [GR_int]; omega)]
      exact iteT q
/-! ### can_write -/
def spCanWrite (n : Nat) : Sp := fun vs H Q _ => ∃ (v : V) (b : Nat) (t : Tt), vs = [v, .int (b : Nat)] ∧ TreeAt H v t ∧ fit t ∧ depth t < n ∧ depth t ≤ 60 ∧ 1 ≤ b ∧ ∀ H', Same H H' → Q (.bl (cw b t)) H'
theorem ok_can_write (T : Txt K mg) : ∀ n, FnOk P w K mg base CX0 n T.a_can_write T.d_can_write ["tree", "base"] (spCanWrite n)
  | 0 => none_left fun vs H Q E ⟨v, b, t, _, _, _, h, _⟩ => absurd h (Nat.not_lt_zero _)
  | n + 1 => by
    have G_can_write := ok_can_write T n
    refine T.F_can_write.ok sc_can_write (fun vs H Q E h => ?_) (fun cdv A outer s H vs Q E hr h => ?_)
    · obtain ⟨v, b, t, rfl, _⟩ := h; rfl
    obtain ⟨v, b, ⟨bs⟩, rfl, ht, hf, hd, hd60, hb1, q⟩ := h
    have R_can_write : Room n _ := hr
    have hu64 := hr.units
    rw [treeAt_mk] at ht
    obtain ⟨a, xs, rfl, ha, hbs⟩ := ht
    have hbl := hbs.len
    have flen := fit_len hf
    refine ⟨_, (pss_cons (ps_for PassesOwn.never rfl (pi_enum (by rfl) T.z_enumerate (pa_cons (pv 0) pa_nil)) (pg_tup rfl (pgs_cons (pg_name (i := 2) sc_can_write.nd rfl (Or.inl rfl)) (pgs_cons (pg_name (i := 3) sc_can_write.nd rfl (Or.inl rfl)) pgs_nil))) (pss_one (ps_if (PW.pt (pw_and (pt_cmpR op_ge (pe_op op_add (pv 2) pe_int) (pv 1) (nomark _)) (pw_and1 (pt_cmpR (r := rEqD K) (op_eqD hu64) (pe_ix (r := rIxL K) ix_list (pv 0) (pe_op op_sub (pe_op op_add (pv 2) pe_int) (pv 1)) (fun _ _ => rfl)) (pv 3) (nomark _))))) (pss_one (ps_ret pe_bl)) pss_nil)))
      (pss_one (ps_ret (pe_callB (r := rAll K) (cr_all rfl) (by rfl) T.z_all (by decide +kernel) (pa_cons (pe_lc (own := [("branch", 3)]) (g := gName 3) (tt := tYes) rfl sc_can_write.nd (pi_list (pv 0)) (blkOk_by (own := [("branch", 3)]) (N := ["tree", "base", "at", "branch"]) (sc := defScope s_can_write) (by decide +kernel)) (fun _ _ _ _ _ => (pg_name (i := 3) sc_can_write.nd rfl (Or.inl rfl))) (fun _ _ _ _ _ => pts_nil) (fun _ _ _ _ _ => (pe_call G_can_write R_can_write rfl T.m_can_write T.k_can_write T.b_can_write .nil pass0 (pa_cons (pv 3) (pa_cons (pv 1) pa_nil))))) pa_nil))))), ?_⟩
    refine ⟨_, rfl, a, _, rfl, SqL.of ha, ?_⟩
    refine for_it (walk_enum (xs := xs)) (fun i σ H' => Same H H' ∧ (∃ o2 o3, σ = [some (.ref a), some (.int (b : Nat)), o2, o3]) ∧ ∀ j, j < i → b ≤ j + 1 → bs[j + 1 - b]? ≠ bs[j]?) ⟨Same.refl _, ⟨none, none, rfl⟩, fun j hj => absurd hj (Nat.not_lt_zero _)⟩ (fun i σ H' _ p => SqL.of (p.1 _ _ ha)) ?_ ?_
    · rintro i x σ H1 H2 hi ⟨s1, ⟨o2, o3, rfl⟩, hno⟩ ⟨Tp, x1, y1, rfl, nT, rfl, hx, hy⟩
      cases hx
      obtain ⟨y, hby, hyt⟩ := hbs.get hy
      have hi2 : i < bs.length := by omega
      have sT := same_new nT (.tup [.int (i : Nat), y1])
      have uT : upd H1 Tp (.tup [.int (i : Nat), y1]) Tp = some (.tup [.int (i : Nat), y1]) := upd_same
      generalize upd H1 Tp (.tup [.int (i : Nat), y1]) = H3 at sT uT ⊢
      have s3 := s1.trans sT
      refine ⟨Tp, _, rfl, SqT.of uT, rfl, _, _, rfl, _, _, rfl, rfl, ?_⟩
      refine ⟨_, rfl, _, _, rfl, rfl, _, rfl, _, _, rfl, rfl, _, rfl, ite2 (fun c => ?_) (fun c => ?_)⟩
      · have c' : (b : Int) ≤ (i : Int) + 1 := of_decide_eq_true c
        have hk : i + 1 - b < bs.length := by omega
        obtain ⟨z, hz, hzt⟩ := hbs.get' (List.getElem?_eq_getElem hk)
        have ei : (i : Int) + 1 - (b : Int) = ((i + 1 - b : Nat) : Int) := by omega
        have gz := atI_nat hz
        rw [← ei] at gz
        have md := List.getElem_mem hk
        have my := List.mem_of_getElem? hby
        have d1 := depthL_le md
        have d2 := depthL_le my
        rw [depth] at hd60
        refine ⟨_, rfl, _, rfl, _, _, rfl, rfl, _, rfl, _, _, rfl, rfl, a, xs, _, z, rfl, rfl, SqL.of (s3 _ _ ha), gz, _, rfl, ?_⟩
        refine eq_trees (TreeAt.same s3 _ hzt) (TreeAt.same s3 _ hyt) (by omega) (by omega) ⟨_, rfl, ite2 (fun c2 => ?_) (fun c2 => ?_)⟩
        · have e2 : bs[i + 1 - b] = y := of_decide_eq_true c2
          have e : cw b (.mk bs) = false := by
            rw [cw_mk, okRow_false hi2 (by omega) (by rw [List.getElem?_eq_getElem hk, hby, e2]), Bool.false_and]
          have := q _ s3
          rw [e] at this
          exact this
        · have e2 : bs[i + 1 - b] ≠ y := of_decide_eq_false (Bool.eq_false_iff.mpr c2)
          refine ⟨s3, ⟨_, _, rfl⟩, fun j hj hbj => ?_⟩
          by_cases ej : j = i
          · subst ej
            rw [List.getElem?_eq_getElem hk, hby]
            exact fun e => e2 (Option.some.inj e)
          · exact hno j (by omega) hbj
      · have c' : ¬ (b : Int) ≤ (i : Int) + 1 := of_decide_eq_false (Bool.eq_false_iff.mpr c)
        refine iteF ⟨s3, ⟨_, _, rfl⟩, fun j hj hbj => ?_⟩
        by_cases ej : j = i
        · omega
        · exact hno j (by omega) hbj
    rintro σ H1 ⟨s1, ⟨o2, o3, rfl⟩, hno⟩
    rw [hbl] at hno
    refine ⟨_, rfl, a, rfl, ⟨xs, SqL.of (s1 _ _ ha)⟩, fun D nD => ?_⟩
    refine lc_it (walk_list (xs := xs)) (fun i H' => Fill H1 H' D (((bs.take i).map (cw b)).map V.bl)) (Fill.start nD) (fun i H' _ g => SqL.of (g.1 _ _ (s1 _ _ ha))) ?_ ?_
    · rintro i x H3 H4 hi g ⟨rfl, hx⟩
      obtain ⟨y, hy, hyt⟩ := hbs.get hx
      have my := List.mem_of_getElem? hy
      have d2 := depthL_le my
      rw [depth] at hd60
      refine ⟨rfl, _, rfl, _, rfl, x, b, y, rfl, TreeAt.same (s1.trans g.1) _ hyt, fit_bs hf my, depth_bs hd my, by omega, hb1, fun H5 s5 => ?_⟩
      obtain ⟨k1, k2⟩ := g.more (v := .bl (cw b y)) s5
      refine ⟨_, k1, ?_, ?_⟩
      · rw [List.length_map, List.length_map, List.length_take]
        exact lim_line (by omega)
      · rw [take_more hy, List.map_append, List.map_append]; exact k2
    · intro H3 g
      rw [hbl, List.take_length] at g
      refine ⟨D, _, rfl, SqL.of g.2.2, ?_⟩
      have e : cw b (.mk bs) = (bs.map (cw b)).all id := by rw [cw_mk, okRow_true hno, Bool.true_and, cwL_all]
      rw [← e]
      exact q _ (s1.trans g.1)
/-! ### value_of -/
def spValueOf (n : Nat) : Sp := fun vs H Q _ => ∃ (v : V) (b : Nat) (t : Tt), vs = [v, .int (b : Nat)] ∧ TreeAt H v t ∧ depth t < n ∧ Bits (b : Int) 1001 ∧ ∀ H', Same H H' → Q (.int ((val b t : Nat) : Int)) H'
theorem ok_value_of (T : Txt K mg) : ∀ n, FnOk P w K mg base CX0 n T.a_value_of T.d_value_of ["tree", "base"] (spValueOf n)
  | 0 => none_left fun vs H Q E ⟨v, b, t, _, _, h, _⟩ => absurd h (Nat.not_lt_zero _)
  | n + 1 => by
    have G_value_of := ok_value_of T n
    refine T.F_value_of.ok sc_value_of (fun vs H Q E h => ?_) (fun cdv A outer s H vs Q E hr h => ?_)
    · obtain ⟨v, b, t, rfl, _⟩ := h; rfl
    obtain ⟨v, b, ⟨bs⟩, rfl, ht, hd, hbb, q⟩ := h
    have R_value_of : Room n _ := hr
    rw [treeAt_mk] at ht
    obtain ⟨a, xs, rfl, ha, hbs⟩ := ht
    have hbl := hbs.len
    refine ⟨_, (pss_cons (ps_set (i := 2) sc_value_of.nd rfl (Or.inl rfl) pe_int)
      (pss_cons (ps_for PassesOwn.never rfl (pi_list (pv 0)) (pg_name (i := 3) sc_value_of.nd rfl (Or.inl rfl)) (pss_cons (ps_set (i := 4) sc_value_of.nd rfl (Or.inl rfl) (pe_call G_value_of R_value_of rfl T.m_value_of T.k_value_of T.b_value_of .nil pass0 (pa_cons (pv 3) (pa_cons (pv 1) pa_nil))))
        (pss_cons (ps_set (i := 5) sc_value_of.nd rfl (Or.inl rfl) pe_int)
        (pss_cons (ps_for PassesOwn.never rfl (pi_range1 (by rfl) T.z_range (pa_cons (pe_callB (call_min2 rfl) (by rfl) T.z_min (by decide +kernel) (pa_cons (pv 4) (pa_cons pe_int pa_nil))) pa_nil)) (pg_name (i := 6) sc_value_of.nd rfl (Or.inl rfl)) (pss_one (ps_set (i := 5) sc_value_of.nd rfl (Or.inl rfl) (pe_callB (call_min2 rfl) (by rfl) T.z_min (by decide +kernel) (pa_cons (pe_op op_mulX (pv 5) (pv 1)) (pa_cons (pe_glob (v := .int 2582249878086908589655919172003011874329705792829223512830659356540647622016841194629645353280137831435903171972747493376) rfl T.c_GREATEST ⟨_, rfl⟩) pa_nil))))))
        (pss_one (ps_set (i := 2) sc_value_of.nd rfl (Or.inl rfl) (pe_callB (call_min2 rfl) (by rfl) T.z_min (by decide +kernel) (pa_cons (pe_op op_add (pv 2) (pv 5)) (pa_cons (pe_glob (v := .int 2582249878086908589655919172003011874329705792829223512830659356540647622016841194629645353280137831435903171972747493376) rfl T.c_GREATEST ⟨_, rfl⟩) pa_nil)))))))))
      (pss_one (ps_ret (pv 2))))), ?_⟩
    refine ⟨_, rfl, a, rfl, ⟨_, SqL.of ha⟩, ?_⟩
    refine for_it (walk_list (xs := xs)) (fun i σ H' => Same H H' ∧ ∃ o3 o4 o5 o6, σ = [some (.ref a), some (.int (b : Nat)), some (.int ((valL b 0 (bs.take i) : Nat) : Int)), o3, o4, o5, o6]) ⟨Same.refl _, none, none, none, none, by rw [List.take_zero, valL_nil]; rfl⟩ (fun i σ H' _ p => SqL.of (p.1 _ _ ha)) ?_ ?_
    · rintro i x σ H1 H2 hi ⟨s1, o3, o4, o5, o6, rfl⟩ ⟨rfl, hx⟩
      obtain ⟨y, hy, hyt⟩ := hbs.get hx
      have my := List.mem_of_getElem? hy
      refine ⟨_, rfl, _, rfl, x, b, y, rfl, TreeAt.same s1 _ hyt, depth_bs hd my, hbb, fun H3 s3 => ?_⟩
      refine ⟨_, rfl, _, _, rfl, _, rfl, ?_⟩
      have e401 : (if (401 : Int) < ((val b y : Nat) : Int) then (401 : Int) else ((val b y : Nat) : Int)) = ((min (val b y) 401 : Nat) : Int) := min_int (val b y) 401
      rw [e401]
      refine ⟨by omega, by omega, ?_⟩
      rw [Int.toNat_natCast]
      refine for_range (fun k σ' H' => H' = H3 ∧ ∃ o6, σ' = [some (.ref a), some (.int (b : Nat)), some (.int ((valL b 0 (bs.take i) : Nat) : Int)), some x, some (.int ((val b y : Nat) : Int)), some (.int ((powc b k : Nat) : Int)), o6]) ⟨rfl, o6, rfl⟩ ?_ ?_
      · rintro k σ' H4 hk ⟨rfl, o6', rfl⟩
        have bp : Bits ((powc b k : Nat) : Int) 401 := GR_bits.le (by have := powc_le b k; omega)
        refine ⟨_, rfl, _, rfl, _, _, rfl, rfl, bp.mulX hbb (by decide), _, _, rfl, ?_⟩
        have e : (if (2582249878086908589655919172003011874329705792829223512830659356540647622016841194629645353280137831435903171972747493376 : Int) < ((powc b k : Nat) : Int) * (b : Int) then (2582249878086908589655919172003011874329705792829223512830659356540647622016841194629645353280137831435903171972747493376 : Int) else ((powc b k : Nat) : Int) * (b : Int)) = ((powc b (k + 1) : Nat) : Int) := by
          rw [GR_int, ← Int.natCast_mul]; exact min_int _ _
        refine ⟨rfl, some (.int (0 + (k : Int))), ?_⟩
        rw [e]; rfl
      · rintro σ' H4 ⟨rfl, o6', rfl⟩
        refine ⟨_, rfl, _, rfl, _, _, rfl, rfl, _, _, rfl, s1.trans s3, some x, some (.int ((val b y : Nat) : Int)), some (.int ((powc b (min (val b y) 401) : Nat) : Int)), o6', ?_⟩
        have e : (if (2582249878086908589655919172003011874329705792829223512830659356540647622016841194629645353280137831435903171972747493376 : Int) < ((valL b 0 (bs.take i) : Nat) : Int) + ((powc b (min (val b y) 401) : Nat) : Int) then (2582249878086908589655919172003011874329705792829223512830659356540647622016841194629645353280137831435903171972747493376 : Int) else ((valL b 0 (bs.take i) : Nat) : Int) + ((powc b (min (val b y) 401) : Nat) : Int)) = ((valL b 0 (bs.take (i + 1)) : Nat) : Int) := by
          rw [take_more hy, valL_snoc, GR_int, ← Int.natCast_add]; exact min_int _ _
        rw [e]; rfl
    · rintro σ H1 ⟨s1, o3, o4, o5, o6, rfl⟩
      rw [hbl, List.take_length, ← val_mk]
      exact ⟨_, rfl, q _ s1⟩
end
section
variable {P : Program} {w : World} {K : PySem.W.Frag} {mg : Str → Option Value} {base : Heap}
/-! ### number_of -/
def spNumberOf (A1 A2 A3 : Addr) : Sp := fun vs H Q E => ∃ v vb, vs = [v, vb] ∧ (
  (∃ t, TreeAt H v t ∧ okT t ∧ (
    (∃ b : Nat, vb = .int (b : Nat) ∧ 2 ≤ b ∧ Bits (b : Int) 1000 ∧ (
      (cw b (told t) = false ∧ ∀ H', Same H H' → E (.ref A2) none H')
      ∨ (cw b (told t) = true ∧ val b t < GR ∧ ∀ H', Same H H' → Q (.int ((val b t : Nat) : Int)) H')
      ∨ (cw b (told t) = true ∧ GR ≤ val b t ∧ ∀ H', Same H H' → E (.ref A3) none H')))
    ∨ (NoBase H vb ∧ ∀ H', Same H H' → E (.ref A2) none H')))
  ∨ (Bad H v ∧ ∀ H', Same H H' → E (.ref A1) none H'))
theorem ok_number_of (T : Txt K mg) : FnOk P w K mg base (L2N.CX P w) 44 T.a_number_of T.d_number_of ["tree", "base"] (spNumberOf T.A_BadTree T.A_BadBase T.A_TooGreat) := by
  have G_asked_tree := ok_asked_tree (P := P) (w := w) (base := base) T
  have G_asked_base := ok_asked_base (P := P) (w := w) (base := base) T
  have G_told_of := ok_told_of (P := P) (w := w) (base := base) T 41
  have G_can_write := ok_can_write (P := P) (w := w) (base := base) T 41
  have G_value_of := ok_value_of (P := P) (w := w) (base := base) T 41
  refine okN T.F_number_of sc_number_of (fun vs H Q E h => ?_) (fun cdv A outer s H vs Q E hr h => ?_)
  · obtain ⟨v, vb, rfl, _⟩ := h; rfl
  obtain ⟨v, vb, rfl, h⟩ := h
  have R_asked_tree : Room 43 _ := hr
  have R_asked_base : Room 2 _ := hr.mono (by omega)
  have R_told_of : Room 43 _ := hr
  have R_can_write : Room 41 _ := hr.mono (by omega)
  have R_value_of : Room 41 _ := hr.mono (by omega)
  refine ⟨_, (pss_cons (ps_expr (pe_call G_asked_tree R_asked_tree rfl T.m_asked_tree T.k_asked_tree T.b_asked_tree .nil (L2N.passes_call (L2N.takes_of rfl rfl rfl rfl) (fun _ _ _ _ h => h)) (pa_cons (pv 0) pa_nil)))
      (pss_cons (ps_expr (pe_call G_asked_base R_asked_base rfl T.m_asked_base T.k_asked_base T.b_asked_base .nil (L2N.passes_call (L2N.takes_of rfl rfl rfl rfl) (fun _ _ _ _ h => h)) (pa_cons (pv 1) pa_nil)))
      (pss_cons (ps_if (pt_not (pt_val (pe_call G_can_write R_can_write rfl T.m_can_write T.k_can_write T.b_can_write .nil pass0 (pa_cons (pe_call G_told_of R_told_of rfl T.m_told_of T.k_told_of T.b_told_of .nil pass0 (pa_cons (pv 0) pa_nil)) (pa_cons (pv 1) pa_nil))))) (pss_one (L2N.ps_raise rfl (L2N.takes_of rfl rfl rfl rfl) (L2N.pmk_own PySem.F.excBase_ValueError T.x_BadBase T.g_BadBase T.k_BadBase (raises_own T.sb_BadBase T.tt_BadBase) (by exact rfl)))) pss_nil)
      (pss_cons (ps_set (i := 2) sc_number_of.nd rfl (Or.inl rfl) (pe_call G_value_of R_value_of rfl T.m_value_of T.k_value_of T.b_value_of .nil pass0 (pa_cons (pv 0) (pa_cons (pv 1) pa_nil))))
      (pss_cons (ps_if (pt_cmpR op_ge (pv 2) (pe_glob (v := .int 2582249878086908589655919172003011874329705792829223512830659356540647622016841194629645353280137831435903171972747493376) rfl T.c_GREATEST ⟨_, rfl⟩) (nomark _)) (pss_one (L2N.ps_raise rfl (L2N.takes_of rfl rfl rfl rfl) (L2N.pmk_own PySem.F.excBase_ValueError T.x_TooGreat T.g_TooGreat T.k_TooGreat (raises_own T.sb_TooGreat T.tt_TooGreat) (by exact rfl)))) pss_nil)
      (pss_one (ps_ret (pv 2)))))))), ?_⟩
  rcases h with ⟨t, ht, ho, h⟩ | ⟨hb, q⟩
  case inr => exact ⟨_, rfl, v, rfl, .inr ⟨hb, q⟩⟩
  refine ⟨_, rfl, v, rfl, .inl ⟨t, ht, ho, fun H1 s1 => ?_⟩⟩
  rcases h with ⟨b, rfl, hb2, hbb, h⟩ | ⟨hb, q⟩
  case inr => exact ⟨_, rfl, _, rfl, .inr ⟨hb.same s1, q _ s1⟩⟩
  refine ⟨_, rfl, _, rfl, .inl ⟨b, rfl, hb2, ?_⟩⟩
  have o2 := okT_told ho
  refine ⟨_, rfl, v, t, rfl, TreeAt.same s1 _ ht, ho.fit, ho.dp, fun H2 r n2 => ?_⟩
  refine ⟨_, rfl, r, b, _, rfl, n2.at_, o2.fit, o2.dp, Nat.le_trans o2.2 (by decide), by omega, fun H3 s3 => ⟨_, rfl, ?_⟩⟩
  have s03 := s1.trans (n2.1.trans s3)
  rcases h with ⟨hc, q⟩ | ⟨hc, hv, q⟩ | ⟨hc, hv, q⟩
  · rw [hc]
    exact iteT (q _ s03)
  · rw [hc]
    refine iteF ?_
    refine ⟨_, rfl, _, rfl, v, b, t, rfl, TreeAt.same s03 _ ht, ho.dp, hbb.mono (by decide), fun H4 s4 => ?_⟩
    refine ⟨_, rfl, _, _, rfl, rfl, _, rfl, ?_⟩
    rw [decide_eq_false (show ¬ (2582249878086908589655919172003011874329705792829223512830659356540647622016841194629645353280137831435903171972747493376 : Int) ≤ ((val b t : Nat) : Int) by rw [GR_int]; omega)]
    exact iteF ⟨_, rfl, q _ (s03.trans s4)⟩
  · rw [hc]
    refine iteF ?_
    refine ⟨_, rfl, _, rfl, v, b, t, rfl, TreeAt.same s03 _ ht, ho.dp, hbb.mono (by decide), fun H4 s4 => ?_⟩
    refine ⟨_, rfl, _, _, rfl, rfl, _, rfl, ?_⟩
    rw [decide_eq_true (show (2582249878086908589655919172003011874329705792829223512830659356540647622016841194629645353280137831435903171972747493376 : Int) ≤ ((val b t : Nat) : Int) by rw [GR_int]; omega)]
    exact iteT (q _ (s03.trans s4))
/-! ### stepped -/
def spStepped (A1 A2 A3 : Addr) : Sp := fun vs H Q E => ∃ vn vb, vs = [vn, vb] ∧ (
  (∃ n : Nat, vn = .int (n : Nat) ∧ n < GR ∧ (
    (∃ b : Nat, vb = .int (b : Nat) ∧ 2 ≤ b ∧ Bits (b : Int) 1000 ∧ (
      (knots (writtenT b n) ≤ 300 ∧ val (b + 1) (writtenT b n) < GR ∧ ∀ H', Same H H' → Q (.int ((val (b + 1) (writtenT b n) - 1 : Nat) : Int)) H')
      ∨ (knots (writtenT b n) ≤ 300 ∧ GR ≤ val (b + 1) (writtenT b n) ∧ ∀ H', Same H H' → E (.ref A3) none H')
      ∨ (TooBig 299 b n ∧ ∀ H', Same H H' → E (.ref A3) none H')))
    ∨ (NoBase H vb ∧ E (.ref A2) none H)))
  ∨ (NoNumber H vn ∧ E (.ref A1) none H))
theorem ok_stepped (T : Txt K mg) : FnOk P w K mg base (L2N.CX P w) 42 T.a_stepped T.d_stepped ["number", "base"] (spStepped T.A_BadNumber T.A_BadBase T.A_TooGreat) := by
  have G_written := ok_written (P := P) (w := w) (base := base) T
  have G_value_of := ok_value_of (P := P) (w := w) (base := base) T 41
  refine okN T.F_stepped sc_stepped (fun vs H Q E h => ?_) (fun cdv A outer s H vs Q E hr h => ?_)
  · obtain ⟨vn, vb, rfl, _⟩ := h; rfl
  obtain ⟨vn, vb, rfl, h⟩ := h
  have R_written : Room 7 _ := hr.mono (by omega)
  have R_value_of : Room 41 _ := hr
  refine ⟨_, (pss_cons (ps_set (i := 2) sc_stepped.nd rfl (Or.inl rfl) (pe_call G_written R_written rfl T.m_written T.k_written T.b_written .nil (L2N.passes_call (L2N.takes_of rfl rfl rfl rfl) (fun _ _ _ _ h => h)) (pa_cons (pv 0) (pa_cons (pv 1) pa_nil))))
      (pss_cons (ps_set (i := 3) sc_stepped.nd rfl (Or.inl rfl) (pe_call G_value_of R_value_of rfl T.m_value_of T.k_value_of T.b_value_of .nil pass0 (pa_cons (pv 2) (pa_cons (pe_op op_add (pv 1) pe_int) pa_nil))))
      (pss_cons (ps_if (pt_cmpR op_ge (pv 3) (pe_glob (v := .int 2582249878086908589655919172003011874329705792829223512830659356540647622016841194629645353280137831435903171972747493376) rfl T.c_GREATEST ⟨_, rfl⟩) (nomark _)) (pss_one (L2N.ps_raise rfl (L2N.takes_of rfl rfl rfl rfl) (L2N.pmk_own PySem.F.excBase_ValueError T.x_TooGreat T.g_TooGreat T.k_TooGreat (raises_own T.sb_TooGreat T.tt_TooGreat) (by exact rfl)))) pss_nil)
      (pss_one (ps_ret (pe_callB (call_max2 rfl) (by rfl) T.z_max (by decide +kernel) (pa_cons pe_int (pa_cons (pe_op op_sub (pv 3) pe_int) pa_nil)))))))), ?_⟩
  rcases h with ⟨n, rfl, hn, h⟩ | ⟨hn, q⟩
  case inr => exact ⟨_, rfl, _, rfl, _, _, rfl, .inr ⟨hn, q⟩⟩
  rcases h with ⟨b, rfl, hb, bb, h⟩ | ⟨hb, q⟩
  case inr => exact ⟨_, rfl, _, rfl, _, _, rfl, .inl ⟨n, rfl, hn, .inr ⟨hb, q⟩⟩⟩
  have ev : (b : Int) + 1 = ((b + 1 : Nat) : Int) := rfl
  have b1 : Bits ((b + 1 : Nat) : Int) 1001 := by rw [← ev]; exact bb.add (Bits.mono (a := 1) (by show (1 : Nat) < 2; decide) (by decide))
  have dw := written_depth hb 6 n (tw6 hn)
  rcases h with ⟨hk, hv, q⟩ | ⟨hk, hv, q⟩ | ⟨hk, q⟩
  · refine ⟨_, rfl, _, rfl, _, _, rfl, .inl ⟨n, rfl, hn, .inl ⟨b, rfl, hb, bb, .inl ⟨hk, fun H1 r n1 => ?_⟩⟩⟩⟩
    refine ⟨_, rfl, _, rfl, _, _, rfl, rfl, r, b + 1, _, rfl, n1.at_, Nat.lt_of_lt_of_le dw (by decide), b1, fun H2 s2 => ?_⟩
    refine ⟨_, rfl, _, _, rfl, rfl, _, rfl, ?_⟩
    rw [decide_eq_false (show ¬ (2582249878086908589655919172003011874329705792829223512830659356540647622016841194629645353280137831435903171972747493376 : Int) ≤ ((val (b + 1) (writtenT b n) : Nat) : Int) by rw [GR_int]; omega)]
    refine iteF ⟨_, rfl, _, _, rfl, rfl, _, _, rfl, ?_⟩
    have e : (if ((val (b + 1) (writtenT b n) : Nat) : Int) - 1 > 0 then ((val (b + 1) (writtenT b n) : Nat) : Int) - 1 else 0) = ((val (b + 1) (writtenT b n) - 1 : Nat) : Int) := by
      by_cases c : ((val (b + 1) (writtenT b n) : Nat) : Int) - 1 > 0
      · rw [if_pos c]; omega
      · rw [if_neg c]; omega
    show Q (.int (if ((val (b + 1) (writtenT b n) : Nat) : Int) - 1 > 0 then ((val (b + 1) (writtenT b n) : Nat) : Int) - 1 else 0)) H2
    rw [e]
    exact q _ (n1.1.trans s2)
  · refine ⟨_, rfl, _, rfl, _, _, rfl, .inl ⟨n, rfl, hn, .inl ⟨b, rfl, hb, bb, .inl ⟨hk, fun H1 r n1 => ?_⟩⟩⟩⟩
    refine ⟨_, rfl, _, rfl, _, _, rfl, rfl, r, b + 1, _, rfl, n1.at_, Nat.lt_of_lt_of_le dw (by decide), b1, fun H2 s2 => ?_⟩
    refine ⟨_, rfl, _, _, rfl, rfl, _, rfl, ?_⟩
    rw [decide_eq_true (show (2582249878086908589655919172003011874329705792829223512830659356540647622016841194629645353280137831435903171972747493376 : Int) ≤ ((val (b + 1) (writtenT b n) : Nat) : Int) by rw [GR_int]; omega)]
    exact iteT (q _ (n1.1.trans s2))
  · exact ⟨_, rfl, _, rfl, _, _, rfl, .inl ⟨n, rfl, hn, .inl ⟨b, rfl, hb, bb, .inr ⟨hk, q⟩⟩⟩⟩
end
section
variable {P : Program} {w : World} {K : PySem.W.Frag} {mg : Str → Option Value} {base : Heap}
/-! ### _law_number: some number of not too many bits -/
def NB : Nat := 1050000
def spLawNumber : Sp := fun vs H Q _ => ∃ (c wh : Int) (at_ : Nat), vs = [.int c, .int at_, .int wh] ∧ Bits c NB ∧ Bits wh NB ∧ at_ ≤ 1000 ∧ ∀ z, Bits z 2200000 → Q (.int z) H
theorem ok__law_number (T : Txt K mg) : FnOk P w K mg base CX0 1 T.a__law_number T.d__law_number ["_law_cell", "_law_at", "_law_whole"] spLawNumber := by
  refine T.F__law_number.ok sc__law_number (fun vs H Q E h => ?_) (fun cdv A outer s H vs Q E hr h => ?_)
  · obtain ⟨c, wh, at_, rfl, _⟩ := h; rfl
  obtain ⟨c, wh, at_, rfl, hc, hw, hat, q⟩ := h
  have bat : Bits (at_ : Int) 10 := Bits.lt (n := 1024) (by omega) (by omega) (by decide)
  refine ⟨_, (pss_cons (ps_if (pt_cmpR op_ge (pv 0) (pe_op op_pow pe_int pe_int) (nomark _)) (pss_one (ps_ret (pe_op op_fdivW (pv 0) (pe_op op_add pe_int (pe_op op_mod (pv 1) pe_int))))) pss_nil)
      (pss_cons (ps_set (i := 3) sc__law_number.nd rfl (Or.inl rfl) (pe_op op_mod (pe_op op_add (pe_op op_mulX (pe_op op_add (pv 0) (pe_op op_mulX pe_int (pv 1))) pe_int) (pv 2)) pe_int))
      (pss_cons (ps_set (i := 4) sc__law_number.nd rfl (Or.inl rfl) (pe_op op_mulX (pv 3) (pe_op op_add (pe_op op_add (pv 0) (pe_op op_mulX pe_int (pv 1))) pe_int)))
      (pss_one (ps_ret (pe_op op_fdivW (pe_op op_mulX (pe_op op_mulX (pv 4) (pe_op op_add (pe_op op_add (pv 3) (pv 0)) pe_int)) (pe_op op_add (pe_op op_mulX (pv 3) (pv 3)) pe_int)) (pe_op op_add pe_int (pv 1)))))))), ?_⟩
  refine ⟨_, rfl, _, _, rfl, rfl, (by exact ⟨by decide, by decide, by decide⟩), _, _, rfl, rfl, _, rfl, ?_⟩
  refine ite2 (fun _ => ?_) (fun _ => ?_)
  · have m0 : 0 ≤ (at_ : Int) % 7 := Int.emod_nonneg _ (by decide)
    have m1 : (at_ : Int) % 7 < 7 := Int.emod_lt_of_pos _ (by decide)
    have e : ∀ x : Int, 0 ≤ x → x < 7 → CDivW c (1 + x) := fun x h0 h1 => wide_div (b := 4) (by omega) (by show (1 + x).natAbs < 16; omega) (by decide) (by decide)
    exact ⟨_, rfl, _, rfl, _, _, rfl, rfl, (by show (0 : Int) < 7; decide), _, _, rfl, rfl, _, _, rfl, rfl, e _ m0 m1, q _ ((hc.div).mono (by decide))⟩
  · have b1 : Bits (977 * (at_ : Int)) 20 := Bits.mul (a := 10) (b := 10) (by show (977 : Nat) < 1024; decide) bat
    have b2 : Bits (c + 977 * (at_ : Int)) (NB + 1) := hc.add (b1.mono (by decide))
    have b3 : Bits ((c + 977 * (at_ : Int)) * 48271) (NB + 1 + 16) := b2.mul (b := 16) (by show (48271 : Nat) < 65536; decide)
    refine ⟨_, rfl, _, rfl, _, _, rfl, rfl, Bits.mulX (a := 10) (b := 10) (by show (977 : Nat) < 1024; decide) bat (by decide), _, _, rfl, rfl, _, _, rfl, rfl, b2.mulX (b := 16) (by show (48271 : Nat) < 65536; decide) (by decide), _, rfl, _, _, rfl, rfl, _, _, rfl, rfl, (by show (0 : Int) < 2147483647; decide), ?_⟩
    have m0 : 0 ≤ ((c + 977 * (at_ : Int)) * 48271 + wh) % 2147483647 := Int.emod_nonneg _ (by decide)
    have m1 : ((c + 977 * (at_ : Int)) * 48271 + wh) % 2147483647 < 2147483647 := Int.emod_lt_of_pos _ (by decide)
    show tSeq _ _ _ [_, _, _, some (V.int (((c + 977 * (at_ : Int)) * 48271 + wh) % 2147483647)), _] H
    generalize ((c + 977 * (at_ : Int)) * 48271 + wh) % 2147483647 = m at m0 m1 ⊢
    have bm : Bits m 31 := Bits.lt (n := 2147483647) m0 m1 (by decide)
    have b4 : Bits (31 * (at_ : Int)) 15 := Bits.mul (a := 5) (b := 10) (by show (31 : Nat) < 32; decide) bat
    have b5 : Bits (c + 31 * (at_ : Int)) (NB + 1) := hc.add (b4.mono (by decide))
    have b6 : Bits (c + 31 * (at_ : Int) + 7) (NB + 2) := b5.add (Bits.mono (a := 3) (by show (7 : Nat) < 8; decide) (by decide))
    refine ⟨_, rfl, _, rfl, _, rfl, _, _, rfl, rfl, Bits.mulX (a := 5) (b := 10) (by show (31 : Nat) < 32; decide) bat (by decide), _, _, rfl, rfl, _, _, rfl, rfl, _, _, rfl, rfl, bm.mulX b6 (by decide), ?_⟩
    have b7 : Bits (m * (c + 31 * (at_ : Int) + 7)) (31 + (NB + 2)) := bm.mul b6
    have b8 : Bits (m + c) (NB + 1) := (bm.mono (by decide)).add hc
    have b9 : Bits (m + c + 5) (NB + 2) := b8.add (Bits.mono (a := 3) (by show (5 : Nat) < 8; decide) (by decide))
    have b10 : Bits (m * m) 62 := bm.mul bm
    have b11 : Bits (m * m + 11) 63 := b10.add (Bits.mono (a := 4) (by show (11 : Nat) < 16; decide) (by decide))
    have b12 := b7.mul b9
    have b13 := b12.mul b11
    have cd : CDivW (m * (c + 31 * (at_ : Int) + 7) * (m + c + 5) * (m * m + 11)) (1009 + (at_ : Int)) := wide_div (b := 12) (by omega) (by show (1009 + (at_ : Int)).natAbs < 4096; omega) (by decide) (by decide)
    exact ⟨_, rfl, _, rfl, _, rfl, _, _, rfl, rfl, _, _, rfl, rfl, _, _, rfl, rfl, b7.mulX b9 (by decide), _, rfl, _, rfl, _, _, rfl, rfl, bm.mulX bm (by decide), _, _, rfl, rfl, _, _, rfl, rfl, b12.mulX b11 (by decide), _, rfl, _, _, rfl, rfl, _, _, rfl, rfl, cd, q _ (b13.div.mono (by decide))⟩
/-! ### _law_more: as compared -/
def spLawMore (n : Nat) : Sp := fun vs H Q _ => ∃ (v u : V) (t s : Tt), vs = [v, u] ∧ TreeAt H v t ∧ TreeAt H u s ∧ fit t ∧ depth t < n ∧ ∀ H', Same H H' → Q (.int (cmp t s)) H'
theorem min_ite (i j : Nat) : (if (j : Int) < (i : Int) then (j : Int) else (i : Int)) = ((min i j : Nat) : Int) := by
  by_cases h : j < i
  · rw [if_pos (by omega)]; omega
  · rw [if_neg (by omega)]; omega
theorem ok__law_more (T : Txt K mg) : ∀ n, FnOk P w K mg base CX0 n T.a__law_more T.d__law_more ["_law_one", "_law_other"] (spLawMore n)
  | 0 => none_left fun vs H Q E ⟨v, u, t, s, _, _, _, _, h, _⟩ => by omega
  | n + 1 => by
    have G__law_more := ok__law_more T n
    refine T.F__law_more.ok sc__law_more (fun vs H Q E h => ?_) (fun cdv A outer s H vs Q E hr h => ?_)
    · obtain ⟨v, u, t, s, rfl, _⟩ := h; rfl
    obtain ⟨v, u, ⟨bs⟩, ⟨cs⟩, rfl, ht, hu, hf, hd, q⟩ := h
    have R__law_more : Room n _ := hr
    rw [treeAt_mk] at ht hu
    obtain ⟨a, xs, rfl, ha, hbs⟩ := ht
    obtain ⟨b, ys, rfl, hb, hcs⟩ := hu
    rw [cmp_mk] at q
    have el := hbs.len
    have em := hcs.len
    have lb : min xs.length ys.length ≤ lim := Nat.le_trans (Nat.min_le_left _ _) (by rw [el]; exact fit_len hf)
    have l62 : (lim : Int) < 2 ^ 62 := by decide
    refine ⟨_, (pss_cons (ps_for PassesOwn.never rfl (pi_range1 (by rfl) T.z_range (pa_cons (pe_callB (call_min2 rfl) (by rfl) T.z_min (by decide +kernel) (pa_cons (pe_callB (r := rLenS K) call_len_seqK rfl T.z_len PySem.boot_len (pa_cons (pv 0) pa_nil)) (pa_cons (pe_callB (r := rLenS K) call_len_seqK rfl T.z_len PySem.boot_len (pa_cons (pv 1) pa_nil)) pa_nil))) pa_nil)) (pg_name (i := 2) sc__law_more.nd rfl (Or.inl rfl)) (pss_cons (ps_set (i := 3) sc__law_more.nd rfl (Or.inl rfl) (pe_call G__law_more R__law_more rfl T.m__law_more T.k__law_more T.b__law_more .nil pass0 (pa_cons (pe_ix (r := rIxL K) ix_list (pv 0) (pv 2) (fun _ _ => rfl)) (pa_cons (pe_ix (r := rIxL K) ix_list (pv 1) (pv 2) (fun _ _ => rfl)) pa_nil))))
        (pss_one (ps_if (pt_cmpR op_ne (pv 3) pe_int (nomark _)) (pss_one (ps_ret (pv 3))) pss_nil))))
      (pss_one (ps_ret (pe_op op_sub (pe_callB (r := rLenS K) call_len_seqK rfl T.z_len PySem.boot_len (pa_cons (pv 0) pa_nil)) (pe_callB (r := rLenS K) call_len_seqK rfl T.z_len PySem.boot_len (pa_cons (pv 1) pa_nil)))))), ?_⟩
    refine ⟨_, rfl, a, _, rfl, .inl (SqL.of ha), _, rfl, b, _, rfl, .inl (SqL.of hb), _, _, rfl, ?_⟩
    rw [min_ite]
    refine ⟨_, rfl, by omega, by omega, ?_⟩
    rw [Int.toNat_natCast]
    refine for_range (fun i σ H' => Same H H' ∧ cmpL bs cs = cmpL (bs.drop i) (cs.drop i) ∧ ∃ m f, σ = [some (.ref a), some (.ref b), m, f]) ⟨Same.refl H, by simp, none, none, rfl⟩ ?_ ?_
    · rintro i σ H1 hi ⟨s1, e1, m, f, rfl⟩
      have hi1 : i < bs.length := by omega
      have hi2 : i < cs.length := by omega
      obtain ⟨x, hx, hxt⟩ := hbs.get' (List.getElem?_eq_getElem hi1)
      obtain ⟨y, hy, hyt⟩ := hcs.get' (List.getElem?_eq_getElem hi2)
      have ez : (0 : Int) + (i : Int) = (i : Int) := by omega
      rw [ez]
      refine ⟨_, rfl, _, rfl, a, xs, _, _, rfl, rfl, SqL.of (s1 _ _ ha), atI_nat hx, _, rfl, _, rfl, b, ys, _, _, rfl, rfl, SqL.of (s1 _ _ hb), atI_nat hy, x, y, bs[i], cs[i], rfl, TreeAt.same s1 _ hxt, TreeAt.same s1 _ hyt, fit_bs hf (List.getElem_mem hi1), depth_bs hd (List.getElem_mem hi1), fun H3 s3 => ?_⟩
      rw [drop_get (List.getElem?_eq_getElem hi1), drop_get (List.getElem?_eq_getElem hi2), cmpL_cons] at e1
      refine ⟨_, rfl, rfl, _, rfl, ?_⟩
      refine ite2 (fun c => ?_) (fun c => ?_)
      · have c' : cmp bs[i] cs[i] ≠ 0 := fun z => by simp [z] at c
        rw [if_pos c'] at e1
        exact ⟨_, rfl, by rw [← e1]; exact q _ (s1.trans s3)⟩
      · have c' : ¬ cmp bs[i] cs[i] ≠ 0 := fun z => c (by simp [z])
        rw [if_neg c'] at e1
        exact ⟨s1.trans s3, e1, _, _, rfl⟩
    · rintro σ H1 ⟨s1, e1, m, f, rfl⟩
      refine ⟨_, rfl, a, _, rfl, .inl (SqL.of (s1 _ _ ha)), _, rfl, b, _, rfl, .inl (SqL.of (s1 _ _ hb)), _, _, rfl, rfl, ?_⟩
      rw [el, em] at e1
      show Q (.int ((xs.length : Int) - (ys.length : Int))) H1
      rw [el, em, ← cmpL_end rfl, ← e1]
      exact q _ s1
/-! ### _law_told: as told_of, by insertion -/
/-- how many of the first ones are worth no less -/
def insK (x : Tt) : List Tt → Nat
  | [] => 0
  | y :: l => if 0 ≤ cmp y x then insK x l + 1 else 0
theorem insK_le (x : Tt) : ∀ l, insK x l ≤ l.length
  | [] => Nat.le_refl _
  | y :: l => by
    unfold insK
    split
    · exact Nat.succ_le_succ (insK_le x l)
    · exact Nat.zero_le _
theorem ins_at (x : Tt) : ∀ l, ins x l = l.take (insK x l) ++ x :: l.drop (insK x l)
  | [] => rfl
  | y :: l => by
    unfold ins insK
    split
    · rw [List.take_succ_cons, List.drop_succ_cons, List.cons_append, ← ins_at x l]
    · rfl
theorem insK_get (x : Tt) : ∀ (l : List Tt) (i : Nat) (y : Tt), l[i]? = some y → i ≤ insK x l → (0 ≤ cmp y x → i < insK x l) ∧ (cmp y x < 0 → i = insK x l)
  | [], i, y, h, _ => by simp at h
  | z :: l, 0, y, h, _ => by
    have e : z = y := Option.some.inj (by simpa using h)
    subst e
    unfold insK
    by_cases c : 0 ≤ cmp z x
    · rw [if_pos c]; exact ⟨fun _ => by omega, fun h => by omega⟩
    · rw [if_neg c]; exact ⟨fun h => absurd h c, fun _ => rfl⟩
  | z :: l, i + 1, y, h, hi => by
    unfold insK at hi ⊢
    by_cases c : 0 ≤ cmp z x
    · rw [if_pos c] at hi ⊢
      have ih := insK_get x l i y (by simpa using h) (by omega)
      exact ⟨fun q => by have := ih.1 q; omega, fun q => by have := ih.2 q; omega⟩
    · rw [if_neg c] at hi; omega
theorem ok__law_told (T : Txt K mg) : ∀ n, FnOk P w K mg base CX0 (n + 1) T.a__law_told T.d__law_told ["_law_tree_here"] (spToldOf n)
  | 0 => none_left fun vs H Q E ⟨v, t, _, _, _, h, _⟩ => by omega
  | n + 1 => by
    have G__law_told := ok__law_told T n
    have G__law_more := ok__law_more (P := P) (w := w) (base := base) T n
    refine T.F__law_told.ok sc__law_told (fun vs H Q E h => ?_) (fun cdv A outer s H vs Q E hr h => ?_)
    · obtain ⟨v, t, rfl, _⟩ := h; rfl
    obtain ⟨v, ⟨bs⟩, rfl, ht, hf, hd, q⟩ := h
    have R__law_told : Room (n + 1) _ := hr
    have R__law_more : Room n _ := hr.mono (by omega)
    rw [treeAt_mk] at ht
    rw [told_mk] at q
    obtain ⟨a, xs, rfl, ha, hbs⟩ := ht
    have flen := fit_len hf
    refine ⟨_, (pss_cons (ps_set (i := 1) sc__law_told.nd rfl (Or.inl rfl) (pe_lst pa_nil))
      (pss_cons (ps_for PassesOwn.never rfl (pi_list (pe_lc (own := [("_law_branch", 2)]) (g := gName 2) (tt := tYes) rfl sc__law_told.nd (pi_list (pv 0)) (blkOk_by (own := [("_law_branch", 2)]) (N := ["_law_tree_here", "_law_found", "_law_branch", "_law_at"]) (sc := defScope s__law_told) (by decide +kernel)) (fun _ _ _ _ _ => (pg_name (i := 2) sc__law_told.nd rfl (Or.inl rfl))) (fun _ _ _ _ _ => pts_nil) (fun _ _ _ _ _ => (pe_call G__law_told R__law_told rfl T.m__law_told T.k__law_told T.b__law_told .nil pass0 (pa_cons (pv 2) pa_nil))))) (pg_name (i := 2) sc__law_told.nd rfl (Or.inl rfl)) (pss_cons (ps_set (i := 3) sc__law_told.nd rfl (Or.inl rfl) pe_int)
        (pss_cons (ps_while PassesOwn.never (PW.pt (pw_and (pt_cmpR op_lt (pv 3) (pe_callB (r := rLenS K) call_len_seqK rfl T.z_len PySem.boot_len (pa_cons (pv 1) pa_nil)) (nomark _)) (pw_and1 (pt_cmpR op_ge (pe_call G__law_more R__law_more rfl T.m__law_more T.k__law_more T.b__law_more .nil pass0 (pa_cons (pe_ix (r := rIxL K) ix_list (pv 1) (pv 3) (fun _ _ => rfl)) (pa_cons (pv 2) pa_nil))) pe_int (nomark _))))) (pss_one (ps_set (i := 3) sc__law_told.nd rfl (Or.inl rfl) (pe_op op_add (pv 3) pe_int))))
        (pss_one (ps_expr (pe_bm PySem.F.plainAttrs_list PySem.F.slot_list_insert PySem.F.type_list_insert mt_insert (pv 1) (pa_cons (pv 3) (pa_cons (pv 2) pa_nil))))))))
      (pss_one (ps_ret (pv 1))))), ?_⟩
    refine ⟨(by show 0 ≤ sizeLine; decide), fun F nF => ?_⟩
    have sF := same_new nF (.lst [])
    -- the list of the told branches
    refine ⟨_, rfl, a, rfl, ⟨xs, SqL.of (sF _ _ ha)⟩, fun D nD => ?_⟩
    refine lc_it (walk_list (xs := xs)) (fun i H' => Grow (upd H F (.lst [])) H' D ((bs.take i).map told)) (Grow.start nD) (fun i H' _ g => SqL.of (g.same _ _ (sF _ _ ha))) ?_ ?_
    · rintro i x H1 H2 hi g ⟨rfl, hx⟩
      obtain ⟨b, hb, hxb⟩ := hbs.get hx
      have mb := List.mem_of_getElem? hb
      refine ⟨rfl, _, rfl, x, b, rfl, TreeAt.same g.same b (TreeAt.same sF b hxb), fit_bs hf mb, depth_bs hd mb, fun H3 r nw => ?_⟩
      obtain ⟨acc, h1, h2, h3⟩ := g.more nw
      refine ⟨acc, h1, ?_, ?_⟩
      · rw [h2, List.length_map, List.length_take]
        exact lim_line (Nat.le_trans (Nat.min_le_right _ _) flen)
      · rw [take_more hb, List.map_append]; exact h3
    · intro H1 g
      rw [hbs.len, List.take_length] at g
      obtain ⟨s1, _, acc, as, hD, ow, nd, fr⟩ := g
      have hF1 : H1 F = some (.lst []) := s1 _ _ upd_same
      have la : acc.length = bs.length := by rw [ow.len, List.length_map]
      obtain ⟨nDas, nas⟩ := List.nodup_cons.mp nd
      have frH : ∀ c, c ∈ as → H c = none := fun c hc => sF.free (fr c hc)
      have nFas : F ∉ as := fun hc => by have := fr F hc; rw [upd_same] at this; cases this
      have nDF : D ≠ F := fun e => by rw [e, upd_same] at nD; cases nD
      refine ⟨D, rfl, ⟨acc, SqL.of hD⟩, ?_⟩
      refine for_it (walk_list (xs := acc)) (fun i σ H' => ∃ o1 o2 fv as', σ = [some (.ref a), some (.ref F), o1, o2] ∧ (∀ b o, b ≠ F → H1 b = some o → H' b = some o) ∧ H' F = some (.lst fv) ∧ fv.length = i ∧ Owns H1 (fv ++ acc.drop i) (toldL [] (bs.take i) ++ (bs.map told).drop i) as' ∧ as'.Perm as) ?_ (fun i σ H' _ p => ?_) ?_ ?_
      · refine ⟨none, none, [], as, rfl, fun _ _ _ e => e, hF1, rfl, ?_, List.Perm.refl _⟩
        rw [List.take_zero, toldL_nil]; exact ow
      · obtain ⟨o1, o2, fv, as', _, k, _⟩ := p
        exact SqL.of (k _ _ nDF hD)
      · rintro i x σ H2 H3 hi ⟨o1, o2, fv, as', rfl, k, hF, lf, ow', pm⟩ ⟨rfl, hx⟩
        have hib : i < bs.length := by omega
        have hb : bs[i]? = some bs[i] := List.getElem?_eq_getElem hib
        have mb := List.getElem_mem hib
        have hmt : (bs.map told)[i]? = some (told bs[i]) := by rw [List.getElem?_map, hb]; rfl
        rw [drop_get hx, drop_get hmt] at ow'
        obtain ⟨v1, v2, a1, a2, e1, e2, p1, p2⟩ := ow'.split
        have l1 : v1.length = fv.length := by rw [p1.len, toldL_len, List.length_take, lf]; simp; omega
        obtain ⟨ev1, ev2⟩ := List.append_inj e1 l1.symm
        subst ev1 ev2 e2
        rw [owns_cons] at p2
        obtain ⟨x', vs', b1, b2, e3, e4, p3, p4⟩ := p2
        injection e3 with e3 e5
        subst e3 e5 e4
        have ns2 : ∀ c, c ∈ a1 ++ (b1 ++ b2) → c ≠ F := fun c hc e => nFas (by rw [← e]; exact pm.mem_iff.mp hc)
        have in2 : ∀ c, c ∈ a1 ++ (b1 ++ b2) → ∀ o, H1 c = some o → H3 c = some o := fun c hc o q => k c o (ns2 c hc) q
        have tsF : TreesAt H3 fv (toldL [] (bs.take i)) := Owns.at_ _ (Owns.frame _ p1 fun c hc o q => in2 c (List.mem_append_left _ hc) o q)
        have tx : TreeAt H3 x (told bs[i]) := Own.at_ _ (Own.frame _ p3 fun c hc o q => in2 c (List.mem_append_right _ (List.mem_append_left _ hc)) o q)
        have fl1 : ∀ y, y ∈ toldL [] (bs.take i) → fit y := fun y hy => by
          obtain ⟨z, hz, e⟩ := mem_toldL hy
          rw [e]
          exact fit_told z (fit_bs hf (List.mem_of_mem_take hz))
        have dl1 : ∀ y, y ∈ toldL [] (bs.take i) → depth y < n := fun y hy => by
          obtain ⟨z, hz, e⟩ := mem_toldL hy
          rw [e]
          exact depth_told (depth_bs hd (List.mem_of_mem_take hz))
        have lt : (toldL [] (bs.take i)).length = fv.length := tsF.len.symm
        -- at = 0
        show tSeq _ _ _ [some (V.ref a), some (V.ref F), some x, some (V.int 0)] H3
        refine ⟨fun m σ' H' => ∃ j : Nat, σ' = [some (.ref a), some (.ref F), some x, some (.int j)] ∧ m + j = fv.length ∧ j ≤ insK (told bs[i]) (toldL [] (bs.take i)) ∧ Same H3 H', ⟨fv.length, 0, rfl, rfl, Nat.zero_le _, Same.refl _⟩, ?_⟩
        rintro m σ' H4 ⟨j, rfl, hm, hj, s4⟩
        have hF4 := s4 _ _ hF
        have jl : j ≤ fv.length := by rw [← lt]; exact Nat.le_trans hj (insK_le _ _)
        refine cut_t (fun b H' => Same H4 H' ∧ b = decide (j < insK (told bs[i]) (toldL [] (bs.take i)))) (fun Q' hQ' => ?_) ?_
        · refine ⟨_, rfl, _, rfl, F, fv, rfl, .inl (SqL.of hF4), _, _, rfl, rfl, _, rfl, ?_⟩
          refine ite2 (fun c => ?_) (fun c => ?_)
          · have c' : (j : Int) < ((fv.length : Nat) : Int) := of_decide_eq_true c
            have jl2 : j < (toldL [] (bs.take i)).length := by omega
            obtain ⟨y, hy, hyt⟩ := tsF.get' (List.getElem?_eq_getElem jl2)
            have my := List.getElem_mem jl2
            refine ⟨_, rfl, _, rfl, F, fv, _, _, rfl, rfl, SqL.of hF4, atI_nat hy, _, rfl, y, x, _, _, rfl, TreeAt.same s4 _ hyt, TreeAt.same s4 _ tx, fl1 _ my, dl1 _ my, fun H5 s5 => ?_⟩
            have ig := insK_get (told bs[i]) _ j _ (List.getElem?_eq_getElem jl2) hj
            refine ⟨_, _, rfl, rfl, _, rfl, hQ' _ _ ⟨s5, ?_⟩⟩
            refine decide_eq_decide.mpr ⟨ig.1, fun h => ?_⟩
            by_cases c2 : (0 : Int) ≤ cmp (toldL [] (bs.take i))[j] (told bs[i])
            · exact c2
            · have := ig.2 (by omega); omega
          · have c' : ¬ (j : Int) < ((fv.length : Nat) : Int) := of_decide_eq_false (Bool.eq_false_iff.mpr c)
            refine hQ' _ _ ⟨Same.refl _, ?_⟩
            have := insK_le (told bs[i]) (toldL [] (bs.take i))
            exact (decide_eq_false (by omega)).symm
        rintro b6 H6 ⟨s6, rfl⟩
        refine ite2 (fun c => ?_) (fun c => ?_)
        · have c' := of_decide_eq_true c
          have := insK_le (told bs[i]) (toldL [] (bs.take i))
          refine ⟨fun σ'' H'' => ∃ m', m' < m ∧ ∃ j : Nat, σ'' = [some (.ref a), some (.ref F), some x, some (.int j)] ∧ m' + j = fv.length ∧ j ≤ insK (told bs[i]) (toldL [] (bs.take i)) ∧ Same H3 H'', fun _ _ h => h, ?_⟩
          refine ⟨_, rfl, _, _, rfl, rfl, m - 1, by omega, j + 1, ?_, by omega, by omega, s4.trans s6⟩
          show [_, _, _, some (V.int ((j : Int) + 1))] = _
          congr 1
        · have c' := of_decide_eq_false (Bool.eq_false_iff.mpr c)
          have ej : j = insK (told bs[i]) (toldL [] (bs.take i)) := by omega
          have hF6 := s6 _ _ hF4
          refine ⟨_, rfl, .inl ⟨rfl, _, SqL.of hF6⟩, _, rfl, _, rfl, F, fv, _, x, rfl, rfl, hF6, lim_line (by omega), by omega, ?_, ?_⟩
          · have : (lim : Int) < 2 ^ 63 := by decide
            omega
          · rw [Int.toNat_natCast]
            have eT : toldL [] (bs.take (i + 1)) = (toldL [] (bs.take i)).take j ++ told bs[i] :: (toldL [] (bs.take i)).drop j := by
              rw [toldL_more hb, merge_one, ins_at, ej]
            rw [← List.take_append_drop j (toldL [] (bs.take i))] at p1
            obtain ⟨w1, w2, c1, c2, ev, ea, q1, q2⟩ := p1.split
            subst ea
            have lw : w1.length = j := by rw [q1.len, List.length_take]; omega
            subst ev
            rw [List.take_left' lw, List.drop_left' lw, List.append_assoc, List.singleton_append]
            refine ⟨some x, some (.int j), w1 ++ x :: w2, (c1 ++ (b1 ++ c2)) ++ b2, rfl, fun b o nb e => ?_, upd_same, ?_, ?_, ?_⟩
            · rw [upd_ne nb]; exact s6 _ _ (s4 _ _ (k b o nb e))
            · rw [List.length_append, List.length_cons]
              rw [List.length_append] at lf
              omega
            · rw [eT]
              refine Owns.append (Owns.append q1 ?_) p4
              rw [owns_cons]
              exact ⟨x, w2, b1, c2, rfl, rfl, p3, q2⟩
            · refine List.Perm.trans ?_ pm
              rw [List.append_assoc, List.append_assoc, List.append_assoc]
              refine List.Perm.append_left c1 ?_
              rw [← List.append_assoc, ← List.append_assoc]
              exact List.Perm.append_right b2 List.perm_append_comm
      · rintro σ H2 ⟨o1, o2, fv, as', rfl, k, hF, lf, ow', pm⟩
        have z1 : acc.drop acc.length = [] := List.drop_length
        have z2 : (bs.map told).drop acc.length = [] := List.drop_eq_nil_of_le (by rw [List.length_map]; omega)
        have z3 : bs.take acc.length = bs := by rw [la, List.take_length]
        rw [z1, z2, z3, List.append_nil, List.append_nil] at ow'
        have nFas' : F ∉ as' := fun h => nFas (pm.mem_iff.mp h)
        refine ⟨_, rfl, q _ _ ⟨fun b o e => k b o (ne_of_none e nF) (s1 _ _ (sF _ _ e)), F :: as', ?_, ?_, ?_⟩⟩
        · rw [own_mk]
          exact ⟨F, fv, as', rfl, rfl, hF, Owns.frame _ ow' fun c hc o e => k c o (fun z => nFas' (by rw [← z]; exact hc)) e⟩
        · exact List.nodup_cons.mpr ⟨nFas', pm.nodup_iff.mpr nas⟩
        · intro c hc
          rcases List.mem_cons.mp hc with e | hc
          · rw [e]; exact nF
          · exact frH c (pm.mem_iff.mp hc)
end
section
variable {P : Program} {w : World} {K : PySem.W.Frag} {mg : Str → Option Value} {base : Heap}
/-! ### _law_is_tree -/
def spLawIsTree (n : Nat) : Sp := fun vs H Q _ => ∃ (v : V) (t : Tt), vs = [v] ∧ TreeAt H v t ∧ fit t ∧ depth t < n ∧ ∀ H', Same H H' → Q (.bl true) H'
theorem ok__law_is_tree (T : Txt K mg) : ∀ n, FnOk P w K mg base CX0 n T.a__law_is_tree T.d__law_is_tree ["_law_found"] (spLawIsTree n)
  | 0 => none_left fun vs H Q E ⟨v, t, _, _, _, h, _⟩ => by omega
  | n + 1 => by
    have G__law_is_tree := ok__law_is_tree T n
    refine T.F__law_is_tree.ok sc__law_is_tree (fun vs H Q E h => ?_) (fun cdv A outer s H vs Q E hr h => ?_)
    · obtain ⟨v, t, rfl, _⟩ := h; rfl
    obtain ⟨v, ⟨bs⟩, rfl, ht, hf, hd, q⟩ := h
    have R__law_is_tree : Room n _ := hr
    rw [treeAt_mk] at ht
    obtain ⟨a, xs, rfl, ha, hbs⟩ := ht
    obtain ⟨h1, h2⟩ := list_isi (K := K) ha
    refine ⟨_, (pss_one (ps_ret (pe_and (pe_callB (r := rIsi K) call_isi (by rfl) T.z_isinstance (by decide +kernel) (pa_cons (pv 0) (pa_cons (pe_bltn (v := .ty "list") (u := .type "list") (by rfl) T.z_list (by decide +kernel) rfl) pa_nil))) (pe_one (pe_callB (r := rAll K) (cr_all rfl) (by rfl) T.z_all (by decide +kernel) (pa_cons (pe_lc (own := [("_law_branch", 1)]) (g := gName 1) (tt := tYes) rfl sc__law_is_tree.nd (pi_list (pv 0)) (blkOk_by (own := [("_law_branch", 1)]) (N := ["_law_found", "_law_branch"]) (sc := defScope s__law_is_tree) (by decide +kernel)) (fun _ _ _ _ _ => (pg_name (i := 1) sc__law_is_tree.nd rfl (Or.inl rfl))) (fun _ _ _ _ _ => pts_nil) (fun _ _ _ _ _ => (pe_call G__law_is_tree R__law_is_tree rfl T.m__law_is_tree T.k__law_is_tree T.b__law_is_tree .nil pass0 (pa_cons (pv 1) pa_nil)))) pa_nil)))))), ?_⟩
    refine ⟨_, rfl, _, _, _, _, true, rfl, ClsV.ty _, h1, h2, _, rfl, iteT ?_⟩
    refine ⟨_, rfl, a, rfl, ⟨xs, SqL.of ha⟩, fun D nD => ?_⟩
    refine lc_it (walk_list (xs := xs)) (fun i H' => Fill H H' D ((List.replicate i true).map V.bl)) (Fill.start nD) (fun i H' _ g => SqL.of (g.1 _ _ ha)) ?_ ?_
    · rintro i x H1 H2 hi g ⟨rfl, hx⟩
      obtain ⟨b, hb, hxb⟩ := hbs.get hx
      have mb := List.mem_of_getElem? hb
      refine ⟨rfl, _, rfl, x, b, rfl, TreeAt.same g.1 b hxb, fit_bs hf mb, depth_bs hd mb, fun H3 s3 => ?_⟩
      obtain ⟨k1, k2⟩ := g.more (v := .bl true) s3
      refine ⟨_, k1, ?_, ?_⟩
      · rw [List.length_map, List.length_replicate]
        exact lim_line (by have := fit_len hf; have := hbs.len; omega)
      · rw [List.replicate_succ', List.map_append]; exact k2
    · intro H1 g
      refine ⟨D, _, rfl, SqL.of g.2.2, ?_⟩
      have e : (List.replicate xs.length true).all id = true := by simp
      rw [e]
      exact q _ g.1
/-! ### _law_own: all knots' places behind one another -/
theorem Kept.trans {l : Addr} {H H1 H2 : Hp} (a : Kept l H H1) (b : Kept l H1 H2) : Kept l H H2 := fun c o n e => b c o n (a c o n e)
theorem Kept.of_same {l : Addr} {H H1 : Hp} (s : Same H H1) : Kept l H H1 := fun c o _ e => s c o e
def spLawOwn (n : Nat) : Sp := fun vs H Q _ => ∃ (v : V) (t : Tt) (as : List Addr) (l : Addr) (vs0 : List V), vs = [v, .ref l] ∧ Own H v t as ∧ l ∉ as ∧ H l = some (.lst vs0) ∧ vs0.length + as.length ≤ lim ∧ depth t < n ∧
  ∀ H', Kept l H H' → H' l = some (.lst (vs0 ++ as.tail.map V.ref)) → Q (.ref l) H'
theorem ok__law_own (T : Txt K mg) : ∀ n, FnOk P w K mg base CX0 n T.a__law_own T.d__law_own ["_law_tree_here", "_law_own_here"] (spLawOwn n)
  | 0 => none_left fun vs H Q E ⟨v, t, as, l, vs0, _, _, _, _, _, h, _⟩ => by omega
  | n + 1 => by
    have G__law_own := ok__law_own T n
    refine T.F__law_own.ok sc__law_own (fun vs H Q E h => ?_) (fun cdv A outer s H vs Q E hr h => ?_)
    · obtain ⟨v, t, as, l, vs0, rfl, _⟩ := h; rfl
    obtain ⟨v, ⟨bs⟩, as, l, vs0, rfl, ho, nl, hl, hlen, hd, q⟩ := h
    have R__law_own : Room n _ := hr
    rw [own_mk] at ho
    obtain ⟨a, xs, as', rfl, rfl, ha, ow⟩ := ho
    have nla : l ≠ a := fun e => nl (by rw [e]; exact List.mem_cons_self)
    have nl' : l ∉ as' := fun h => nl (List.mem_cons_of_mem _ h)
    rw [List.length_cons] at hlen
    refine ⟨_, (pss_cons (ps_for PassesOwn.never rfl (pi_list (pe_callTy (r := rListOf K) call_list_ofK (by rfl) T.z_list (by decide +kernel) (pa_cons (pv 0) pa_nil))) (pg_name (i := 2) sc__law_own.nd rfl (Or.inl rfl)) (pss_cons (ps_expr (pe_bm PySem.F.plainAttrs_list PySem.F.slot_list_append PySem.F.type_list_append mt_append (pv 1) (pa_cons (pv 2) pa_nil)))
        (pss_one (ps_expr (pe_call G__law_own R__law_own rfl T.m__law_own T.k__law_own T.b__law_own .nil pass0 (pa_cons (pv 2) (pa_cons (pv 1) pa_nil)))))))
      (pss_one (ps_ret (pv 1)))), ?_⟩
    refine ⟨_, rfl, a, xs, rfl, .inl (SqL.of ha), fun C nC => ?_⟩
    have sC := same_new nC (.lst xs)
    have nlC : l ≠ C := fun e => by rw [e, nC] at hl; cases hl
    have eb : ∀ i, bs = bs.take i ++ bs.drop i := fun i => (List.take_append_drop i bs).symm
    refine ⟨C, rfl, ⟨xs, SqL.of upd_same⟩, ?_⟩
    refine for_it (walk_list (xs := xs)) (fun i σ H' => ∃ o a1 a2, σ = [some (.ref a), some (.ref l), o] ∧ Kept l (upd H C (.lst xs)) H' ∧ as' = a1 ++ a2 ∧ Owns H (xs.drop i) (bs.drop i) a2 ∧ H' l = some (.lst (vs0 ++ a1.map V.ref))) ?_ (fun i σ H' _ p => ?_) ?_ ?_
    · exact ⟨none, [], as', rfl, fun _ _ _ e => e, rfl, ow, by rw [List.map_nil, List.append_nil, upd_ne nlC]; exact hl⟩
    · obtain ⟨o, a1, a2, _, k, _⟩ := p
      exact SqL.of (k _ _ nlC.symm upd_same)
    · rintro i x σ H1 H2 hi ⟨o, a1, a2, rfl, k, rfl, ow2, hl2⟩ ⟨rfl, hx⟩
      have hib : i < bs.length := by have := ow.len; omega
      rw [drop_get hx, drop_get (List.getElem?_eq_getElem hib), owns_cons] at ow2
      obtain ⟨x', vs', b1, b2, e, rfl, p1, p2⟩ := ow2
      injection e with e1 e2
      subst e1 e2
      have mb := List.getElem_mem hib
      simp only [List.length_append] at hlen
      refine ⟨_, rfl, .inl ⟨rfl, _, SqL.of hl2⟩, _, rfl, l, _, x, rfl, rfl, hl2, ?_, ?_⟩
      · rw [List.length_append, List.length_map]
        exact lim_line (by omega)
      -- the branch's own place
      have hx2 : ∃ c b1', x = .ref c ∧ b1 = c :: b1' := by
        cases hb : bs[i] with
        | mk l3 =>
          rw [hb, own_mk] at p1
          obtain ⟨c, _, b1', h1, h2, _⟩ := p1
          exact ⟨c, b1', h1, h2⟩
      obtain ⟨c, b1', rfl, rfl⟩ := hx2
      have k3 : Kept l H2 (upd H2 l (.lst (vs0 ++ a1.map V.ref ++ [.ref c]))) := fun b o nb e => by rw [upd_ne nb]; exact e
      have p1' : Own (upd H2 l (.lst (vs0 ++ a1.map V.ref ++ [.ref c]))) (.ref c) bs[i] (c :: b1') := Own.frame _ p1 fun d hd u e =>
        have nd : d ≠ l := fun z => nl' (by rw [← z]; exact List.mem_append_right _ (List.mem_append_left _ hd))
        k3 d u nd (k d u nd (sC _ _ e))
      refine ⟨_, rfl, _, rfl, .ref c, bs[i], c :: b1', l, _, rfl, p1', fun h => nl' (List.mem_append_right _ (List.mem_append_left _ h)), upd_same, ?_, depth_bs hd mb, fun H5 k5 hl5 => ?_⟩
      · simp only [List.length_append, List.length_cons, List.length_map, List.length_nil] at hlen ⊢
        omega
      · refine ⟨some (.ref c), a1 ++ (c :: b1'), b2, rfl, k.trans (k3.trans k5), by rw [List.append_assoc], p2, ?_⟩
        rw [hl5, List.map_append, List.map_cons]
        simp
    · rintro σ H1 ⟨o, a1, a2, rfl, k, rfl, ow2, hl2⟩
      have e : bs.drop xs.length = [] := by rw [ow.len]; exact List.drop_length
      rw [e, owns_nil] at ow2
      obtain ⟨_, rfl⟩ := ow2
      refine ⟨_, rfl, q _ ((Kept.of_same sC).trans k) ?_⟩
      rw [hl2]; simp
/-! ### _law_spoilt: no list stands twice -/
def kids (H : Hp) (a : Addr) : List V := match H a with
  | some (.lst xs) => xs
  | _ => []
theorem kids_at {H : Hp} {a : Addr} {xs : List V} (h : H a = some (.lst xs)) : kids H a = xs := by unfold kids; rw [h]
mutual
theorem Own.kids {H : Hp} : ∀ {v : V} (t : Tt) {as : List Addr}, Own H v t as → fit t → ∀ a, a ∈ as → H a = some (.lst (Hg.kids H a)) ∧ (Hg.kids H a).length ≤ lim
  | v, .mk bs, as, h, hf, a, ha => by
    rw [own_mk] at h
    rw [fit_mk] at hf
    obtain ⟨b, vs, as', rfl, rfl, hb, ow⟩ := h
    rcases List.mem_cons.mp ha with e | ha
    · subst e
      rw [kids_at hb]
      exact ⟨hb, by rw [ow.len]; exact hf.1⟩
    · exact Owns.kids bs ow hf.2 a ha
theorem Owns.kids {H : Hp} : ∀ {vs : List V} (ts : List Tt) {as : List Addr}, Owns H vs ts as → fitL ts → ∀ a, a ∈ as → H a = some (.lst (Hg.kids H a)) ∧ (Hg.kids H a).length ≤ lim
  | vs, [], as, h, _, a, ha => by rw [owns_nil] at h; rw [h.2] at ha; cases ha
  | vs, b :: bs, as, h, hf, a, ha => by
    rw [owns_cons] at h
    rw [fitL] at hf
    obtain ⟨v, vs', a1, a2, rfl, rfl, o1, o2⟩ := h
    rcases List.mem_append.mp ha with ha | ha
    · exact Own.kids b o1 hf.1 a ha
    · exact Owns.kids bs o2 hf.2 a ha
end
mutual
theorem Own.len {H : Hp} : ∀ {v : V} (t : Tt) {as : List Addr}, Own H v t as → as.length = knots t
  | v, .mk bs, as, h => by
    rw [own_mk] at h
    obtain ⟨b, vs, as', rfl, rfl, hb, ow⟩ := h
    rw [List.length_cons, knots, Owns.lenK bs ow]
    omega
theorem Owns.lenK {H : Hp} : ∀ {vs : List V} (ts : List Tt) {as : List Addr}, Owns H vs ts as → as.length = knotsL ts
  | vs, [], as, h => by rw [owns_nil] at h; rw [h.2, knotsL]; rfl
  | vs, b :: bs, as, h => by
    rw [owns_cons] at h
    obtain ⟨v, vs', a1, a2, rfl, rfl, o1, o2⟩ := h
    rw [List.length_append, knotsL, Own.len b o1, Owns.lenK bs o2]
end
def spLawSpoilt (n : Nat) : Sp := fun vs H Q _ => ∃ (v : V) (t : Tt) (as : List Addr), vs = [v] ∧ Own H v t as ∧ as.Nodup ∧ fit t ∧ knots t ≤ lim - 1 ∧ depth t < n ∧ ∀ H', (∀ b o, b ∉ as → H b = some o → H' b = some o) → Q (.bl true) H'
theorem ok__law_spoilt (T : Txt K mg) (n : Nat) : FnOk P w K mg base CX0 (n + 1) T.a__law_spoilt T.d__law_spoilt ["_law_tree_here"] (spLawSpoilt n) := by
  have G__law_own := ok__law_own (P := P) (w := w) (base := base) T n
  refine T.F__law_spoilt.ok sc__law_spoilt (fun vs H Q E h => ?_) (fun cdv A outer s H vs Q E hr h => ?_)
  · obtain ⟨v, t, as, rfl, _⟩ := h; rfl
  obtain ⟨v, t, as, rfl, ho, nd, hf, hk, hd, q⟩ := h
  have R__law_own : Room n _ := hr
  have hu64 := hr.units
  have hlen := Own.len t ho
  have kd := Own.kids t ho hf
  obtain ⟨a0, as0, eas, ev⟩ : ∃ a0 as0, as = a0 :: as0 ∧ v = .ref a0 := by
    cases t with
    | mk bs =>
      rw [own_mk] at ho
      obtain ⟨b, vs, as', h1, h2, _⟩ := ho
      exact ⟨b, as', h2, h1⟩
  have trk : ∀ a, a ∈ as → ∃ o, H a = some o := fun a ha => ⟨_, (kd a ha).1⟩
  have lpos : lim - 1 < lim := by decide
  refine ⟨_, (pss_cons (ps_set (i := 1) sc__law_spoilt.nd rfl (Or.inl rfl) (pe_call G__law_own R__law_own rfl T.m__law_own T.k__law_own T.b__law_own .nil pass0 (pa_cons (pv 0) (pa_cons (pe_lst (pa_cons (pv 0) pa_nil)) pa_nil))))
      (pss_cons (ps_setLc (i := 2) (own := [("_law_knot", 3)]) (g := gName 3) (tt := tYes) rfl sc__law_spoilt.nd rfl rfl (sw_true rfl rfl rfl (by decide +kernel)) (pi_list (pv 1)) (blkOk_by (own := [("_law_knot", 3)]) (N := ["_law_tree_here", "_law_own_here", "_law_sizes", "_law_knot", "_law_size"]) (sc := defScope s__law_spoilt) (by decide +kernel)) (fun _ _ _ _ _ => (pg_name (i := 3) sc__law_spoilt.nd rfl (Or.inl rfl))) (fun _ _ _ _ _ => pts_nil) (fun _ _ _ _ _ => (pe_callB (r := rLenS K) call_len_seqK rfl T.z_len PySem.boot_len (pa_cons (pv 3) pa_nil))))
      (pss_cons (ps_for PassesOwn.never rfl (pi_list (pv 1)) (pg_name (i := 3) sc__law_spoilt.nd rfl (Or.inl rfl)) (pss_one (ps_expr (pe_bm PySem.F.plainAttrs_list PySem.F.slot_list_append PySem.F.type_list_append mt_append (pv 3) (pa_cons pe_int pa_nil)))))
      (pss_one (ps_ret (pe_cmpR (r := rEqD K) (op_eqD hu64) (pe_lc (own := [("_law_knot", 3)]) (g := gName 3) (tt := tYes) rfl sc__law_spoilt.nd (pi_list (pv 1)) (blkOk_by (own := [("_law_knot", 3)]) (N := ["_law_tree_here", "_law_own_here", "_law_sizes", "_law_knot", "_law_size"]) (sc := defScope s__law_spoilt) (by decide +kernel)) (fun _ _ _ _ _ => (pg_name (i := 3) sc__law_spoilt.nd rfl (Or.inl rfl))) (fun _ _ _ _ _ => pts_nil) (fun _ _ _ _ _ => (pe_callB (r := rLenS K) call_len_seqK rfl T.z_len PySem.boot_len (pa_cons (pv 3) pa_nil)))) (pe_lc (own := [("_law_size", 4)]) (g := gName 4) (tt := tYes) rfl sc__law_spoilt.nd (pi_list (pv 2)) (blkOk_by (own := [("_law_size", 4)]) (N := ["_law_tree_here", "_law_own_here", "_law_sizes", "_law_knot", "_law_size"]) (sc := defScope s__law_spoilt) (by decide +kernel)) (fun _ _ _ _ _ => (pg_name (i := 4) sc__law_spoilt.nd rfl (Or.inl rfl))) (fun _ _ _ _ _ => pts_nil) (fun _ _ _ _ _ => (pe_op op_add (pv 4) pe_int))) (nomark _))))))), ?_⟩
  refine ⟨_, rfl, _, rfl, (by show 1 ≤ sizeLine; decide), fun l nl => ?_⟩
  have sl := same_new nl (.lst [v])
  have nlas : l ∉ as := fun h => by obtain ⟨o, e⟩ := trk l h; rw [nl] at e; cases e
  refine ⟨v, t, as, l, [v], rfl, Own.frame t ho fun a _ o e => sl _ _ e, nlas, upd_same, ?_, hd, fun H1 k1 hl1 => ?_⟩
  · rw [List.length_singleton, hlen]; omega
  have hl1' : H1 l = some (.lst (as.map V.ref)) := by rw [hl1, eas, ev]; rfl
  have s1 : Same H H1 := fun b o e => k1 b o (ne_of_none e nl) (sl _ _ e)
  have at1 : ∀ a, a ∈ as → H1 a = some (.lst (kids H a)) := fun a ha => s1 _ _ (kd a ha).1
  have lal : (as.map V.ref).length = as.length := List.length_map _
  have zl : ∀ i, i < as.length → i < sizeLine := fun i hi => lim_line (by omega)
  -- sizes
  refine ⟨_, rfl, l, rfl, ⟨_, SqL.of hl1'⟩, fun D nD => ?_⟩
  refine lc_it (walk_list (xs := as.map V.ref)) (fun i H' => Fill H1 H' D (((as.take i).map fun a => ((kids H a).length : Int)).map V.int)) (Fill.start nD) (fun i H' _ g => SqL.of (g.1 _ _ hl1')) ?_ ?_
  · rintro i x H2 H3 hi g ⟨rfl, hx⟩
    rw [lal] at hi
    have hai : as[i]? = some as[i] := List.getElem?_eq_getElem hi
    rw [List.getElem?_map, hai] at hx
    cases hx
    have ma := List.getElem_mem hi
    refine ⟨rfl, _, rfl, _, _, rfl, .inl (SqL.of (g.1 _ _ (at1 _ ma))), ?_⟩
    obtain ⟨h1, h2⟩ := g.more (v := .int ((kids H as[i]).length : Int)) (Same.refl _)
    refine ⟨_, h1, ?_, ?_⟩
    · rw [List.length_map, List.length_map, List.length_take]
      exact zl _ (by omega)
    · rw [take_more hai, List.map_append, List.map_append]; exact h2
  intro H2 g2
  rw [lal, List.take_length] at g2
  obtain ⟨s2, _, hD2⟩ := g2
  have nDas : D ∉ as := fun h => by have := at1 _ h; rw [nD] at this; cases this
  have nDl : D ≠ l := fun e => by rw [e, hl1'] at nD; cases nD
  -- knot.append(0)
  refine ⟨_, rfl, l, rfl, ⟨_, SqL.of (s2 _ _ hl1')⟩, ?_⟩
  refine for_it (walk_list (xs := as.map V.ref)) (fun i σ H' => ∃ o o2, σ = [some v, some (.ref l), some (.ref D), o, o2] ∧ (∀ b u, b ∉ as → H2 b = some u → H' b = some u) ∧ (∀ j a, as[j]? = some a → H' a = some (.lst (if j < i then kids H a ++ [.int 0] else kids H a)))) ?_ (fun i σ H' _ p => ?_) ?_ ?_
  · exact ⟨none, none, rfl, fun _ _ _ e => e, fun j a h => by rw [if_neg (Nat.not_lt_zero j)]; exact s2 _ _ (at1 _ (List.mem_of_getElem? h))⟩
  · obtain ⟨o, o2, _, k, _⟩ := p
    exact SqL.of (k _ _ nlas (s2 _ _ hl1'))
  · rintro i x σ H3 H4 hi ⟨o, o2, rfl, k3, at3⟩ ⟨rfl, hx⟩
    rw [lal] at hi
    have hai : as[i]? = some as[i] := List.getElem?_eq_getElem hi
    rw [List.getElem?_map, hai] at hx
    cases hx
    have ma := List.getElem_mem hi
    have hi3 := at3 i _ hai
    rw [if_neg (Nat.lt_irrefl i)] at hi3
    refine ⟨_, rfl, .inl ⟨rfl, _, SqL.of hi3⟩, _, _, _, rfl, rfl, hi3, lim_line (kd _ ma).2, ?_⟩
    refine ⟨_, o2, rfl, fun b u nb e => ?_, fun j a hj => ?_⟩
    · rw [upd_ne (fun z => nb (by rw [z]; exact ma))]; exact k3 b u nb e
    · by_cases e : j = i
      · subst e
        rw [hai] at hj
        cases hj
        rw [upd_same, if_pos (Nat.lt_succ_self j)]
      · have nea : a ≠ as[i] := fun z => e (nd_ix nd hj (by rw [hai, z]))
        rw [upd_ne nea, at3 j a hj]
        by_cases hlt : j < i
        · rw [if_pos hlt, if_pos (by omega)]
        · rw [if_neg hlt, if_neg (by omega)]
  rintro σ H3 ⟨o, o2, rfl, k3, at3⟩
  rw [lal] at at3
  have hl3 := k3 _ _ nlas (s2 _ _ hl1')
  have hD3 := k3 _ _ nDas hD2
  have all3 : ∀ j a, as[j]? = some a → H3 a = some (.lst (kids H a ++ [.int 0])) := fun j a h => by
    have := at3 j a h
    rw [if_pos (List.getElem?_eq_some_iff.mp h).1] at this
    exact this
  -- the sizes behind it
  refine ⟨_, rfl, l, rfl, ⟨_, SqL.of hl3⟩, fun D2 nD2 => ?_⟩
  refine lc_it (walk_list (xs := as.map V.ref)) (fun i H' => Fill H3 H' D2 (((as.take i).map fun a => ((kids H a).length : Int) + 1).map V.int)) (Fill.start nD2) (fun i H' _ g => SqL.of (g.1 _ _ hl3)) ?_ ?_
  · rintro i x H4 H5 hi g ⟨rfl, hx⟩
    rw [lal] at hi
    have hai : as[i]? = some as[i] := List.getElem?_eq_getElem hi
    rw [List.getElem?_map, hai] at hx
    cases hx
    refine ⟨rfl, _, rfl, _, _, rfl, .inl (SqL.of (g.1 _ _ (all3 _ _ hai))), ?_⟩
    obtain ⟨h1, h2⟩ := g.more (v := .int (((kids H as[i] ++ [V.int 0]).length : Nat) : Int)) (Same.refl _)
    refine ⟨_, h1, ?_, ?_⟩
    · rw [List.length_map, List.length_map, List.length_take]
      exact zl _ (by omega)
    · rw [take_more hai, List.map_append, List.map_append]
      have e : (((kids H as[i] ++ [V.int 0]).length : Nat) : Int) = ((kids H as[i]).length : Int) + 1 := by rw [List.length_append]; rfl
      rw [e] at h2 ⊢
      exact h2
  intro H4 g4
  rw [lal, List.take_length] at g4
  obtain ⟨s4, _, hD4⟩ := g4
  refine ⟨_, rfl, D, rfl, ⟨_, SqL.of (s4 _ _ hD3)⟩, fun D3 nD3 => ?_⟩
  refine lc_it (walk_list (xs := (as.map fun a => ((kids H a).length : Int)).map V.int)) (fun i H' => Fill H4 H' D3 (((as.take i).map fun a => ((kids H a).length : Int) + 1).map V.int)) (Fill.start nD3) (fun i H' _ g => SqL.of (g.1 _ _ (s4 _ _ hD3))) ?_ ?_
  · rintro i x H5 H6 hi g ⟨rfl, hx⟩
    rw [List.length_map, List.length_map] at hi
    have hai : as[i]? = some as[i] := List.getElem?_eq_getElem hi
    rw [List.getElem?_map, List.getElem?_map, hai] at hx
    cases hx
    refine ⟨rfl, _, rfl, _, _, rfl, rfl, ?_⟩
    obtain ⟨h1, h2⟩ := g.more (v := .int (((kids H as[i]).length : Int) + 1)) (Same.refl _)
    refine ⟨_, h1, ?_, ?_⟩
    · rw [List.length_map, List.length_map, List.length_take]
      exact zl _ (by omega)
    · rw [take_more hai, List.map_append, List.map_append]; exact h2
  intro H5 g5
  rw [List.length_map, List.length_map, List.take_length] at g5
  refine eq_ints (SqL.of (g5.1 _ _ hD4)) (SqL.of g5.2.2) ?_
  rw [decide_eq_true rfl]
  refine q _ fun b u nb e => ?_
  have nbl : b ≠ l := ne_of_none e nl
  exact g5.1 _ _ (s4 _ _ (k3 _ _ nb (s2 _ _ (s1 _ _ e))))
end
section
variable {P : Program} {w : World} {K : PySem.W.Frag} {mg : Str → Option Value} {base : Heap}
/-! ### _law_tree -/
theorem cutV_take (xs : List V) (k : Nat) : cutV xs none (some (k : Int)) = xs.take k := by
  unfold cutV
  rw [HT.sIx_none, HT.sIx_nat, List.drop_zero, Nat.sub_zero]
  by_cases h : k ≤ xs.length
  · rw [Nat.min_eq_left h]
  · rw [Nat.min_eq_right (by omega), List.take_length, List.take_of_length_le (by omega)]
theorem cutV_drop (xs : List V) (k : Nat) : cutV xs (some (k : Int)) none = xs.drop k := by
  unfold cutV
  rw [HT.sIx_none, HT.sIx_nat]
  by_cases h : k ≤ xs.length
  · rw [Nat.min_eq_left h, List.take_of_length_le (by rw [List.length_drop]; omega)]
  · rw [Nat.min_eq_right (by omega), List.drop_eq_nil_of_le (Nat.le_refl _), List.drop_eq_nil_of_le (by omega), List.take_nil]
def spLawTree (K : PySem.W.Frag) : Sp := fun vs H Q _ => ∃ (a : Addr) (ns : List Int) (most byy : Nat), vs = [.ref a, .int most, .int byy] ∧ SqL K H a (ns.map V.int) ∧ (∀ n, n ∈ ns → Bits n NB) ∧ 1 ≤ most ∧ most ≤ 63 ∧ byy ≤ 100 ∧
  ∀ H' r t, New H H' r t → knots t ≤ most + 1 → depth t ≤ most → Q r H'
theorem ok__law_tree (T : Txt K mg) : FnOk P w K mg base CX0 2 T.a__law_tree T.d__law_tree ["_law_script", "_law_most", "_law_by"] (spLawTree K) := by
  have G__law_number := ok__law_number (P := P) (w := w) (base := base) T
  refine T.F__law_tree.ok sc__law_tree (fun vs H Q E h => ?_) (fun cdv A outer s H vs Q E hr h => ?_)
  · obtain ⟨a, ns, most, byy, rfl, _⟩ := h; rfl
  obtain ⟨a, ns, most, byy, rfl, hS, hB, hm1, hm63, hby, q⟩ := h
  have R__law_number : Room 1 _ := hr
  have hu64 := hr.units
  refine ⟨_, (pss_cons (ps_set (i := 3) sc__law_tree.nd rfl (Or.inl rfl) (pe_ifExp (pt_cmpR (r := rNeD K) (op_neD hu64) (pv 0) (pe_lst pa_nil) (nomark _)) (pe_slice (r := rSlL K) sl_list (pv 0) po_none (po_some (pv 1))) (pe_lst (pa_cons pe_int pa_nil))))
      (pss_cons (ps_set (i := 4) sc__law_tree.nd rfl (Or.inl rfl) (pe_lst pa_nil))
      (pss_cons (ps_set (i := 5) sc__law_tree.nd rfl (Or.inl rfl) (pe_lst (pa_cons (pv 4) pa_nil)))
      (pss_cons (ps_for PassesOwn.never rfl (pi_enum (by rfl) T.z_enumerate (pa_cons (pv 3) pa_nil)) (pg_tup rfl (pgs_cons (pg_name (i := 6) sc__law_tree.nd rfl (Or.inl rfl)) (pgs_cons (pg_name (i := 7) sc__law_tree.nd rfl (Or.inl rfl)) pgs_nil))) (pss_cons (ps_set (i := 8) sc__law_tree.nd rfl (Or.inl rfl) (pe_call G__law_number R__law_number rfl T.m__law_number T.k__law_number T.b__law_number .nil pass0 (pa_cons (pv 7) (pa_cons (pe_op op_add (pv 6) (pv 2)) (pa_cons (pe_callB (r := rLenS K) call_len_seqK rfl T.z_len PySem.boot_len (pa_cons (pv 3) pa_nil)) pa_nil)))))
        (pss_cons (ps_set (i := 9) sc__law_tree.nd rfl (Or.inl rfl) (pe_op op_mod (pe_op op_add (pe_callB (r := rLenS K) call_len_seqK rfl T.z_len PySem.boot_len (pa_cons (pv 3) pa_nil)) (pv 2)) pe_int))
        (pss_cons (ps_set (i := 10) sc__law_tree.nd rfl (Or.inl rfl) (pe_op op_mod (pe_op op_fdivW (pv 8) pe_int) (pe_callB (r := rLenS K) call_len_seqK rfl T.z_len PySem.boot_len (pa_cons (pv 5) pa_nil))))
        (pss_cut2 (ps_if (pt_cmpR op_gt (pv 9) pe_int (nomark _)) (pss_one (ps_set (i := 10) sc__law_tree.nd rfl (Or.inl rfl) (pe_op op_sub (pe_op op_sub (pe_callB (r := rLenS K) call_len_seqK rfl T.z_len PySem.boot_len (pa_cons (pv 5) pa_nil)) pe_int) (pe_op op_mod (pe_op op_fdivW (pv 8) pe_int) (pe_callB (call_min2 rfl) (by rfl) T.z_min (by decide +kernel) (pa_cons (pe_callB (r := rLenS K) call_len_seqK rfl T.z_len PySem.boot_len (pa_cons (pv 5) pa_nil)) (pa_cons (pe_op op_add pe_int (pe_op op_mulX (pv 9) pe_int)) pa_nil))))))) pss_nil)
        (pss_cons (ps_set (i := 11) sc__law_tree.nd rfl (Or.inl rfl) (pe_lst pa_nil))
        (pss_cut2 (ps_if (pt_cmpR op_eq (pe_op op_mod (pv 8) pe_int) pe_int (nomark _)) (pss_one (ps_expr (pe_bm PySem.F.plainAttrs_list PySem.F.slot_list_append PySem.F.type_list_append mt_append (pe_ix (r := rIxL K) ix_list (pv 5) (pv 10) (fun _ _ => rfl)) (pa_cons (pv 11) pa_nil)))) (pss_one (ps_expr (pe_bm PySem.F.plainAttrs_list PySem.F.slot_list_insert PySem.F.type_list_insert mt_insert (pe_ix (r := rIxL K) ix_list (pv 5) (pv 10) (fun _ _ => rfl)) (pa_cons pe_int (pa_cons (pv 11) pa_nil))))))
        (pss_one (ps_expr (pe_bm PySem.F.plainAttrs_list PySem.F.slot_list_append PySem.F.type_list_append mt_append (pv 5) (pa_cons (pv 11) pa_nil)))))))))))
      (pss_one (ps_ret (pv 4))))))), ?_⟩
  -- the cells
  suffices hcells : ∀ (Hc : Hp) (Ce : Addr) (cs : List Int), Same H Hc → Hc Ce = some (.lst (cs.map V.int)) → (∀ n, n ∈ cs → Bits n NB) → cs.length ≤ most →
      tSeq _ _ _ [some (V.ref a), some (.int most), some (.int byy), some (.ref Ce), none, none, none, none, none, none, none, none] Hc by
    refine ⟨_, rfl, (by show 0 ≤ sizeLine; decide), fun p np => ?_⟩
    have sp := same_new np (.lst [])
    refine ne_ints (ns := ns) (ms := []) (sp.seq hS) (SqL.of upd_same) ⟨_, rfl, ?_⟩
    refine ite2 (fun _ => ?_) (fun _ => ?_)
    · refine ⟨_, rfl, _, rfl, _, rfl, a, _, rfl, sp.seq hS, fun Ce nC => ?_⟩
      rw [cutV_take]
      refine hcells _ Ce (ns.take most) (sp.trans (same_new nC _)) ?_ (fun n hn => hB n (List.mem_of_mem_take hn)) (by rw [List.length_take]; exact Nat.min_le_left _ _)
      rw [upd_same, List.map_take]
    · refine ⟨(by show 1 ≤ sizeLine; decide), fun Ce nC => ?_⟩
      refine hcells _ Ce [3] (sp.trans (same_new nC _)) upd_same (fun n hn => ?_) hm1
      rw [List.mem_singleton] at hn
      rw [hn]
      exact Bits.mono (a := 2) (by show (3 : Nat) < 4; decide) (by decide)
  intro Hc Ce cs sc hCe hcB hcl
  -- the tree, the list of its knots
  refine ⟨(by show 0 ≤ sizeLine; decide), fun R nR => ?_⟩
  have s1 := same_new nR (.lst [])
  refine ⟨_, rfl, (by show 1 ≤ sizeLine; decide), fun O nO => ?_⟩
  have s2 := same_new nO (.lst [.ref R])
  have nOR : O ≠ R := fun e => by rw [e, upd_same] at nO; cases nO
  have nOc : Hc O = none := s1.free nO
  refine ⟨_, rfl, Ce, _, rfl, SqL.of (s2 _ _ (s1 _ _ hCe)), ?_⟩
  refine for_it (walk_enum (xs := cs.map V.int)) (fun i σ H' => ∃ (o6 o7 o8 o9 o10 o11 : Option V) (t : Tt) (as os : List Addr), σ = [some (.ref a), some (.int most), some (.int byy), some (.ref Ce), some (.ref R), some (.ref O), o6, o7, o8, o9, o10, o11] ∧
      Same Hc H' ∧ Own H' (.ref R) t as ∧ as.Nodup ∧ (∀ c, c ∈ as → Hc c = none) ∧ O ∉ as ∧ H' O = some (.lst (os.map V.ref)) ∧ os.length = i + 1 ∧ (∀ c, c ∈ os → c ∈ as) ∧ knots t = i + 1 ∧ depth t ≤ i) ?_ (fun i σ H' _ p => ?_) ?_ ?_
  · refine ⟨none, none, none, none, none, none, .mk [], [R], [R], rfl, s1.trans s2, ?_, List.nodup_cons.mpr ⟨by simp, List.nodup_nil⟩, fun c hc => ?_, ?_, upd_same, rfl, fun c hc => hc, by rw [knots, knotsL], by rw [depth, depthL]; exact Nat.le_refl 0⟩
    · rw [own_mk]
      exact ⟨R, [], [], rfl, rfl, s2 _ _ upd_same, by rw [owns_nil]; exact ⟨rfl, rfl⟩⟩
    · rw [List.mem_singleton] at hc
      rw [hc]; exact nR
    · rw [List.mem_singleton]; exact nOR
  · obtain ⟨_, _, _, _, _, _, t, as, os, _, sm, _⟩ := p
    exact SqL.of (sm _ _ hCe)
  · rintro i x σ H1 H2 hi ⟨o6, o7, o8, o9, o10, o11, t, as, os, rfl, sm, ow, nd, fr, nOas, hO, lo, so, kt, dt⟩ ⟨Tp, x1, y1, rfl, nT, rfl, hx, hy⟩
    have sT := same_new nT (.tup [x1, y1])
    cases hx
    rw [List.length_map] at hi
    have hci : cs[i]? = some cs[i] := List.getElem?_eq_getElem hi
    replace hy : (cs.map V.int)[i]? = some y1 := hy
    rw [List.getElem?_map, hci] at hy
    cases hy
    have mc := List.getElem_mem hi
    have hCe1 := sT _ _ (sm _ _ hCe)
    have hO1 := sT _ _ hO
    have ow1 : Own (upd H1 Tp (.tup [.int (i : Nat), .int cs[i]])) (.ref R) t as := Own.frame t ow fun c _ u e => sT _ _ e
    have lcs : (cs.map V.int).length = cs.length := List.length_map _
    have los : (os.map V.ref).length = os.length := List.length_map _
    generalize hH3 : upd H1 Tp (.tup [.int (i : Nat), .int cs[i]]) = H3 at sT hCe1 hO1 ow1 ⊢
    refine ⟨Tp, _, rfl, SqT.of (by rw [← hH3]; exact upd_same), rfl, _, _, rfl, _, _, rfl, rfl, ?_⟩
    refine ⟨_, rfl, _, rfl, _, rfl, _, _, rfl, rfl, _, rfl, Ce, _, rfl, .inl (SqL.of hCe1), cs[i], (((cs.map V.int).length : Nat) : Int), i + byy, rfl, hcB _ mc, ?_, by omega, fun z hz => ?_⟩
    · rw [lcs]
      exact Bits.mono (a := 7) (Bits.lt (n := 128) (by omega) (by omega) (by decide)) (by decide)
    -- kind, spot
    refine ⟨_, rfl, Ce, _, rfl, .inl (SqL.of hCe1), _, rfl, _, _, rfl, rfl, _, _, rfl, rfl, (by show (0 : Int) < 3; decide), ?_⟩
    refine ⟨_, rfl, _, _, rfl, rfl, wide_div (b := 2) (by decide) (by decide) (by decide) (by decide), _, rfl, O, _, rfl, .inl (SqL.of hO1), _, _, rfl, rfl, (by show (0 : Int) < (((os.map V.ref).length : Nat) : Int); rw [los]; omega), ?_⟩
    have k0 : 0 ≤ ((((cs.map V.int).length : Nat) : Int) + (byy : Int)) % 3 := Int.emod_nonneg _ (by decide)
    have k1 : ((((cs.map V.int).length : Nat) : Int) + (byy : Int)) % 3 < 3 := Int.emod_lt_of_pos _ (by decide)
    have p0 : 0 ≤ z / 3 % (((os.map V.ref).length : Nat) : Int) := Int.emod_nonneg _ (by rw [los]; omega)
    have p1 : z / 3 % (((os.map V.ref).length : Nat) : Int) < (((os.map V.ref).length : Nat) : Int) := Int.emod_lt_of_pos _ (by rw [los]; omega)
    show tCut _ _ _ [_, _, _, _, _, _, _, _, some (V.int z), some (V.int (((((cs.map V.int).length : Nat) : Int) + (byy : Int)) % 3)), some (V.int (z / 3 % (((os.map V.ref).length : Nat) : Int))), o11] H3
    generalize ((((cs.map V.int).length : Nat) : Int) + (byy : Int)) % 3 = kd at k0 k1 ⊢
    generalize z / 3 % (((os.map V.ref).length : Nat) : Int) = sp0 at p0 p1 ⊢
    refine ⟨fun σ' H' => H' = H3 ∧ ∃ sp : Nat, sp < os.length ∧ σ' = [some (.ref a), some (.int most), some (.int byy), some (.ref Ce), some (.ref R), some (.ref O), some (.int (i : Nat)), some (.int cs[i]), some (.int z), some (.int kd), some (.int sp), o11], ?_, ?_⟩
    · refine ⟨_, rfl, _, _, rfl, rfl, _, rfl, ?_⟩
      refine ite2 (fun _ => ?_) (fun _ => ?_)
      · refine ⟨_, rfl, O, _, rfl, .inl (SqL.of hO1), _, _, rfl, rfl, _, rfl, _, _, rfl, rfl, wide_div (b := 2) (by decide) (by decide) (by decide) (by decide), _, rfl, O, _, rfl, .inl (SqL.of hO1), _, rfl, _, _, rfl, rfl, (by exact Bits.mulX (a := 2) (b := 2) (by show kd.natAbs < 4; omega) (by show (2 : Nat) < 4; decide) (by decide)), _, _, rfl, rfl, _, _, rfl, ?_⟩
        have mpos : 0 < (if 1 + kd * 2 < (((os.map V.ref).length : Nat) : Int) then 1 + kd * 2 else (((os.map V.ref).length : Nat) : Int)) := by
          split <;> omega
        have mle : (if 1 + kd * 2 < (((os.map V.ref).length : Nat) : Int) then 1 + kd * 2 else (((os.map V.ref).length : Nat) : Int)) ≤ (((os.map V.ref).length : Nat) : Int) := by
          split <;> omega
        refine ⟨_, _, rfl, rfl, mpos, _, _, rfl, rfl, rfl, ?_⟩
        have r0 := Int.emod_nonneg (z / 3) (Int.ne_of_gt mpos)
        have r1 := Int.emod_lt_of_pos (z / 3) mpos
        generalize z / 3 % (if 1 + kd * 2 < (((os.map V.ref).length : Nat) : Int) then 1 + kd * 2 else (((os.map V.ref).length : Nat) : Int)) = rr at r0 r1 ⊢
        refine ⟨((((os.map V.ref).length : Nat) : Int) - 1 - rr).toNat, by omega, ?_⟩
        show [_, _, _, _, _, _, _, _, _, _, some (V.int ((((os.map V.ref).length : Nat) : Int) - 1 - rr)), _] = _
        rw [Int.toNat_of_nonneg (by omega)]
      · refine ⟨rfl, sp0.toNat, by omega, ?_⟩
        rw [Int.toNat_of_nonneg p0]
    rintro σ' H' ⟨rfl, sp, hsp, rfl⟩
    -- the new branch
    refine ⟨(by show 0 ≤ sizeLine; decide), fun B nB => ?_⟩
    have sB := same_new nB (.lst [])
    have ms := List.getElem_mem hsp
    have mas := so _ ms
    have osAt : (os.map V.ref)[sp]? = some (V.ref os[sp]) := by rw [List.getElem?_map, List.getElem?_eq_getElem hsp]; rfl
    have hft : fit t := fit_of_knots (n := 100) (by decide) t (by omega)
    obtain ⟨ks, hks, ksl⟩ : ∃ ks, H' os[sp] = some (.lst ks) ∧ ks.length < sizeLine := ⟨_, (Own.kids t ow1 hft _ mas).1, lim_line (Own.kids t ow1 hft _ mas).2⟩
    have nBas : B ∉ as := fun h => by obtain ⟨o, e⟩ := Own.tracked t ow1 _ h; rw [nB] at e; cases e
    have nBO : B ≠ O := fun e => by rw [e, hO1] at nB; cases nB
    have nsO : os[sp] ≠ O := fun e => nOas (by rw [← e]; exact mas)
    have nsB : os[sp] ≠ B := fun e => nBas (by rw [← e]; exact mas)
    refine ⟨fun σ'' H'' => σ'' = [some (.ref a), some (.int most), some (.int byy), some (.ref Ce), some (.ref R), some (.ref O), some (.int (i : Nat)), some (.int cs[i]), some (.int z), some (.int kd), some (.int sp), some (.ref B)] ∧
        ∃ l r, ks = l ++ r ∧ H'' = upd (upd H' B (.lst [])) os[sp] (.lst (l ++ .ref B :: r)), ?_, ?_⟩
    · refine ⟨_, rfl, _, _, rfl, rfl, (by show (0 : Int) < 2; decide), rfl, _, rfl, ?_⟩
      refine ite2 (fun _ => ?_) (fun _ => ?_)
      · refine ⟨_, rfl, _, rfl, O, _, _, _, rfl, rfl, SqL.of (sB _ _ hO1), atI_nat osAt, .inl ⟨rfl, _, SqL.of (sB _ _ hks)⟩, _, rfl, _, _, _, rfl, rfl, sB _ _ hks, ksl, rfl, ks, [], (List.append_nil ks).symm, rfl⟩
      · refine ⟨_, rfl, _, rfl, O, _, _, _, rfl, rfl, SqL.of (sB _ _ hO1), atI_nat osAt, .inl ⟨rfl, _, SqL.of (sB _ _ hks)⟩, _, rfl, _, _, _, _, rfl, rfl, sB _ _ hks, ksl, Int.le_refl 0, by decide, rfl, [], ks, rfl, rfl⟩
    rintro σ'' H'' ⟨rfl, l, r, rfl, rfl⟩
    have sB2 : ∀ b, b ≠ os[sp] → ∀ o, H' b = some o → upd (upd H' B (.lst [])) os[sp] (.lst (l ++ .ref B :: r)) b = some o := fun b nb o e => by rw [upd_ne nb]; exact sB _ _ e
    obtain ⟨t', as', ow', pm, kt', dt'⟩ := Own.graft sB2 hks upd_same (by rw [upd_ne nsB.symm]; exact upd_same) t ow1 nd mas
    generalize upd (upd H' B (.lst [])) os[sp] (.lst (l ++ .ref B :: r)) = H4 at sB2 ow' ⊢
    have hO4 := sB2 O nsO.symm _ hO1
    have nOas' : O ∉ as' := fun h => by
      rcases List.mem_cons.mp (pm.mem_iff.mp h) with e | h
      · exact nBO e.symm
      · exact nOas h
    refine ⟨_, rfl, .inl ⟨rfl, _, SqL.of hO4⟩, _, rfl, O, _, _, rfl, rfl, hO4, ?_, ?_⟩
    · rw [los]; exact lim_line (by have : (100 : Nat) ≤ lim := by decide
                                   omega)
    refine ⟨_, _, _, _, _, _, t', as', os ++ [B], rfl, fun b o e => ?_, ?_, ?_, fun c hc => ?_, nOas', ?_, ?_, fun c hc => ?_, by omega, by omega⟩
    · have nb : b ≠ os[sp] := fun z => by rw [z, fr _ mas] at e; cases e
      rw [upd_ne (ne_of_none e nOc)]
      exact sB2 b nb _ (sT _ _ (sm _ _ e))
    · exact Own.frame t' ow' fun c hc u e => by rw [upd_ne (fun z => nOas' (by rw [← z]; exact hc))]; exact e
    · refine pm.nodup_iff.mpr (List.nodup_cons.mpr ⟨nBas, nd⟩)
    · rcases List.mem_cons.mp (pm.mem_iff.mp hc) with e | hc
      · rw [e]; exact (sm.trans sT).free nB
      · exact fr c hc
    · rw [upd_same, List.map_append]; rfl
    · rw [List.length_append, lo]; rfl
    · rcases List.mem_append.mp hc with hc | hc
      · exact pm.mem_iff.mpr (List.mem_cons_of_mem _ (so c hc))
      · rw [List.mem_singleton] at hc
        exact pm.mem_iff.mpr (by rw [hc]; exact List.mem_cons_self)
  · rintro σ H1 ⟨o6, o7, o8, o9, o10, o11, t, as, os, rfl, sm, ow, nd, fr, nOas, hO, lo, so, kt, dt⟩
    rw [List.length_map] at kt dt
    exact ⟨_, rfl, q _ _ t ⟨sc.trans sm, as, ow, nd, fun c hc => sc.free (fr c hc)⟩ (by omega) (by omega)⟩
end
/-! ### what a tree is worth by a base: plain -/
mutual
def ev (b : Nat) : Tt → Nat
  | .mk l => evL b l
def evL (b : Nat) : List Tt → Nat
  | [] => 0
  | x :: l => b ^ ev b x + evL b l
end
theorem ev_mk (b : Nat) (l : List Tt) : ev b (.mk l) = evL b l := by rw [ev]
theorem evL_nil (b : Nat) : evL b [] = 0 := by rw [evL]
theorem evL_cons (b : Nat) (x : Tt) (l : List Tt) : evL b (x :: l) = b ^ ev b x + evL b l := by rw [evL]
theorem evL_app (b : Nat) : ∀ l m : List Tt, evL b (l ++ m) = evL b l + evL b m
  | [], m => by rw [evL_nil, List.nil_append, Nat.zero_add]
  | x :: l, m => by rw [List.cons_append, evL_cons, evL_cons, evL_app b l m, Nat.add_assoc]
theorem evL_rep (b : Nat) (x : Tt) : ∀ k, evL b (List.replicate k x) = k * b ^ ev b x
  | 0 => by rw [List.replicate_zero, evL_nil, Nat.zero_mul]
  | k + 1 => by rw [List.replicate_succ, evL_cons, evL_rep b x k, Nat.succ_mul, Nat.add_comm]
theorem evL_sum (b : Nat) : ∀ l : List Tt, evL b l = ((l.map (ev b)).map fun e => b ^ e).sum
  | [] => by rw [evL_nil]; rfl
  | x :: l => by rw [evL_cons, evL_sum b l]; rfl
theorem evL_perm {b : Nat} {l m : List Tt} (p : l.Perm m) : evL b l = evL b m := by
  rw [evL_sum, evL_sum]
  exact ((p.map _).map _).sum_nat
theorem ev_told (b : Nat) (t : Tt) : ev b (told t) = ev b t := by
  induction t using Tt.ind with
  | h l ih =>
    have e : (l.map told).map (ev b) = l.map (ev b) := by rw [List.map_map]; exact List.map_congr_left fun x hx => ih x hx
    rw [told_mk, ev_mk, ev_mk, evL_perm (toldL_perm l []), List.nil_append, evL_sum, evL_sum, e]
/-! the values that the program and the law reckon -/
theorem powc_eq {b : Nat} (hb : 1 ≤ b) : ∀ k, powc b k = min (b ^ k) GR
  | 0 => by have := GR_pos; unfold powc; rw [Nat.pow_zero]; omega
  | k + 1 => by
    unfold powc
    rw [powc_eq hb k, Nat.pow_succ]
    by_cases c : b ^ k ≤ GR
    · rw [Nat.min_eq_left c]
    · have h1 : GR ≤ GR * b := Nat.le_mul_of_pos_right _ hb
      have h2 : GR * b ≤ b ^ k * b := Nat.mul_le_mul_right b (by omega)
      rw [Nat.min_eq_right (Nat.le_of_not_le c)]
      omega
theorem pow_GR {b e : Nat} (hb : 2 ≤ b) (he : 400 ≤ e) : GR ≤ b ^ e := by
  have h1 : (2 : Nat) ^ 400 ≤ b ^ 400 := Nat.pow_le_pow_left hb 400
  have h2 : b ^ 400 ≤ b ^ e := Nat.pow_le_pow_right (by omega) he
  show 2 ^ 400 ≤ _
  exact Nat.le_trans h1 h2
theorem GR_big : 401 ≤ GR := by
  have h : (2 : Nat) ^ 9 ≤ 2 ^ 400 := Nat.pow_le_pow_right (by decide) (by decide)
  show 401 ≤ 2 ^ 400
  omega
theorem powc_cut {b e c : Nat} (hb : 2 ≤ b) (hc : 400 ≤ c) (hc2 : c ≤ 401) : powc b (min (min e GR) c) = min (b ^ e) GR := by
  rw [powc_eq (by omega)]
  have g := GR_big
  by_cases h : e ≤ c
  · rw [Nat.min_eq_left (show e ≤ GR by omega), Nat.min_eq_left h]
  · have h1 : min (min e GR) c = c := by omega
    have h2 := pow_GR hb hc
    have h3 := pow_GR hb (show 400 ≤ e by omega)
    rw [h1]; omega
mutual
theorem val_ev {b : Nat} (hb : 2 ≤ b) : ∀ t : Tt, val b t = min (ev b t) GR
  | .mk l => by
    rw [val_mk, ev_mk]
    have := valL_ev hb l 0
    rw [Nat.zero_min, Nat.zero_add] at this
    exact this
theorem valL_ev {b : Nat} (hb : 2 ≤ b) : ∀ (l : List Tt) (a : Nat), valL b (min a GR) l = min (a + evL b l) GR
  | [], a => by rw [valL_nil, evL_nil, Nat.add_zero]
  | x :: l, a => by
    rw [valL_cons, val_ev hb x, powc_cut hb (by decide) (by decide), evL_cons]
    have e : min (min a GR + min (b ^ ev b x) GR) GR = min (a + b ^ ev b x) GR := by omega
    rw [e, valL_ev hb l, Nat.add_assoc]
end
/-! trees written by a base: in falling turn, no branch a base times -/
mutual
def Nm (b : Nat) : Tt → Prop
  | .mk l => Sd l ∧ (∀ x, l.count x < b) ∧ NmL b l
def NmL (b : Nat) : List Tt → Prop
  | [] => True
  | x :: l => Nm b x ∧ NmL b l
end
theorem nm_mk (b : Nat) (l : List Tt) : Nm b (.mk l) = (Sd l ∧ (∀ x, l.count x < b) ∧ NmL b l) := by rw [Nm]
theorem nmL_iff {b : Nat} : ∀ {l : List Tt}, NmL b l ↔ ∀ x, x ∈ l → Nm b x
  | [] => by simp [NmL]
  | x :: l => by rw [NmL, nmL_iff (l := l)]; simp
theorem sum_split (f : Nat → Nat) (E : Nat) : ∀ es : List Nat, (es.map f).sum = es.count E * f E + ((es.filter fun e => decide (e ≠ E)).map f).sum
  | [] => by simp
  | e :: es => by
    rw [List.map_cons, List.sum_cons, sum_split f E es]
    by_cases h : e = E
    · subst h
      rw [List.count_cons_self, List.filter_cons_of_neg (by simp), Nat.succ_mul]; omega
    · rw [List.count_cons_of_ne h, List.filter_cons_of_pos (by simpa using h), List.map_cons, List.sum_cons]; omega
theorem sum_lt {b : Nat} (hb : 1 ≤ b) : ∀ (E : Nat) (es : List Nat), (∀ e, e ∈ es → e < E) → (∀ e, es.count e < b) → (es.map fun e => b ^ e).sum < b ^ E
  | 0, [], _, _ => by simp
  | 0, e :: es, h, _ => absurd (h e List.mem_cons_self) (Nat.not_lt_zero _)
  | E + 1, es, h, hc => by
    rw [sum_split _ E]
    have ih := sum_lt hb E (es.filter fun e => decide (e ≠ E)) (fun e he => by
      have z := List.mem_filter.mp he
      have := h e z.1
      have : e ≠ E := by simpa using z.2
      omega) (fun e => Nat.lt_of_le_of_lt (List.Sublist.count_le e List.filter_sublist) (hc e))
    have h1 := hc E
    have h2 : es.count E * b ^ E + b ^ E ≤ b ^ E * b := by
      rw [← Nat.succ_mul, Nat.mul_comm]; exact Nat.mul_le_mul_left _ h1
    rw [Nat.pow_succ]
    omega
theorem count_inj {f : Tt → Nat} {z : Tt} : ∀ {l : List Tt}, (∀ x, x ∈ l → f x = f z → x = z) → (l.map f).count (f z) = l.count z
  | [], _ => rfl
  | x :: l, h => by
    rw [List.map_cons, List.count_cons, List.count_cons, count_inj fun y hy => h y (List.mem_cons_of_mem _ hy)]
    by_cases c : x = z
    · rw [c]; simp
    · have : f x ≠ f z := fun e => c (h x List.mem_cons_self e)
      rw [beq_eq_false_iff_ne.mpr c, beq_eq_false_iff_ne.mpr this]
theorem Sd.tail {x : Tt} {l : List Tt} (h : Sd (x :: l)) : Sd l := (List.pairwise_cons.mp h).2
theorem evL_lt_of {b : Nat} (hb : 2 ≤ b) {P : Tt → Prop} (ih : ∀ x y, P x → P y → cmp x y < 0 → ev b x < ev b y) : ∀ (l m : List Tt), Sd l → (∀ x, l.count x < b) → (∀ x, x ∈ l → P x) → (∀ x, x ∈ m → P x) → cmpL l m < 0 → evL b l < evL b m
  | [], [], _, _, _, _, h => by rw [cmpL_nil_nil] at h; omega
  | [], y :: m, _, _, _, _, _ => by
    rw [evL_nil, evL_cons]
    have : 0 < b ^ ev b y := Nat.pow_pos (by omega)
    omega
  | x :: l, [], _, _, _, _, h => by rw [cmpL_nil_r] at h; omega
  | x :: l, y :: m, hs, hc, hp, hm, h => by
    rw [cmpL_cons] at h
    by_cases c : cmp x y = 0
    · rw [if_neg (by simp [c])] at h
      have e := cmp_eq c
      subst e
      have := evL_lt_of hb ih l m hs.tail (fun z => Nat.lt_of_le_of_lt (List.count_le_count_cons ..) (hc z)) (fun z hz => hp z (List.mem_cons_of_mem _ hz)) (fun z hz => hm z (List.mem_cons_of_mem _ hz)) h
      rw [evL_cons, evL_cons]
      omega
    · rw [if_pos c] at h
      have hxy := ih x y (hp x List.mem_cons_self) (hm y List.mem_cons_self) h
      have h1 := sum_lt (b := b) (by omega) (ev b x + 1) ((x :: l).map (ev b)) (fun e he => by
        obtain ⟨z, hz, rfl⟩ := List.mem_map.mp he
        rcases List.mem_cons.mp hz with e | hz'
        · rw [e]; omega
        · rcases ge_cases ((List.pairwise_cons.mp hs).1 z hz') with e | e
          · rw [e]; omega
          · have := ih z x (hp z hz) (hp x List.mem_cons_self) e
            omega) (fun e => by
        by_cases hm : e ∈ (x :: l).map (ev b)
        · obtain ⟨z, hz, rfl⟩ := List.mem_map.mp hm
          rw [count_inj fun y hy e => ?_]
          · exact hc z
          · by_cases c1 : cmp y z = 0
            · exact cmp_eq c1
            · by_cases c2 : cmp y z < 0
              · have := ih y z (hp y hy) (hp z hz) c2
                omega
              · have := ih z y (hp z hz) (hp y hy) (by rw [cmp_anti]; omega)
                omega
        · rw [List.count_eq_zero.mpr hm]; omega)
      rw [← evL_sum] at h1
      have h2 : b ^ (ev b x + 1) ≤ b ^ ev b y := Nat.pow_le_pow_right (by omega) hxy
      rw [evL_cons b y m]
      omega
theorem ev_lt_dep {b : Nat} (hb : 2 ≤ b) : ∀ (k : Nat) (s t : Tt), depth s < k → depth t < k → Nm b s → Nm b t → cmp s t < 0 → ev b s < ev b t
  | 0, _, _, h, _, _, _, _ => absurd h (Nat.not_lt_zero _)
  | k + 1, .mk l, .mk m, hl, hm, nl, nm, h => by
    rw [nm_mk] at nl nm
    rw [depth] at hl hm
    rw [cmp_mk] at h
    rw [ev_mk, ev_mk]
    refine evL_lt_of hb (P := fun x => depth x < k ∧ Nm b x) (fun x y px py c => ev_lt_dep hb k x y px.1 py.1 px.2 py.2 c) l m nl.1 nl.2.1 (fun x hx => ⟨?_, nmL_iff.mp nl.2.2 x hx⟩) (fun x hx => ⟨?_, nmL_iff.mp nm.2.2 x hx⟩) h
    · have := depthL_le hx; omega
    · have := depthL_le hx; omega
theorem ev_lt {b : Nat} (hb : 2 ≤ b) {s t : Tt} (hs : Nm b s) (ht : Nm b t) (h : cmp s t < 0) : ev b s < ev b t :=
  ev_lt_dep hb (depth s + depth t + 1) s t (by omega) (by omega) hs ht h
theorem cmp_ev {b : Nat} (hb : 2 ≤ b) {s t : Tt} (hs : Nm b s) (ht : Nm b t) (h : ev b s < ev b t) : cmp s t < 0 := by
  by_cases c : cmp s t < 0
  · exact c
  · by_cases c0 : cmp s t = 0
    · rw [cmp_eq c0] at h; omega
    · have := ev_lt hb ht hs (by rw [cmp_anti]; omega)
      omega
theorem nm_inj {b : Nat} (hb : 2 ≤ b) {s t : Tt} (hs : Nm b s) (ht : Nm b t) (h : ev b s = ev b t) : s = t := by
  by_cases c : cmp s t < 0
  · have := ev_lt hb hs ht c; omega
  · by_cases c0 : cmp s t = 0
    · exact cmp_eq c0
    · have := ev_lt hb ht hs (by rw [cmp_anti]; omega)
      omega
theorem Nm.mono {b c : Nat} (h : b ≤ c) : ∀ {t : Tt}, Nm b t → Nm c t := by
  intro t
  induction t using Tt.ind with
  | h l ih =>
    rw [nm_mk, nm_mk]
    exact fun ⟨h1, h2, h3⟩ => ⟨h1, fun x => Nat.lt_of_lt_of_le (h2 x) h, nmL_iff.mpr fun x hx => ih x hx (nmL_iff.mp h3 x hx)⟩
theorem Nm.told {b : Nat} {t : Tt} : Nm b t → Hg.told t = t := by
  induction t using Tt.ind with
  | h l ih =>
    rw [nm_mk]
    intro ⟨h1, h2, h3⟩
    rw [told_mk]
    congr 1
    refine sd_unique _ _ (toldL_sd _ _ List.Pairwise.nil) h1 ((toldL_perm l []).trans ?_)
    rw [List.nil_append]
    have : l.map Hg.told = l := by
      conv => rhs; rw [← List.map_id l]
      exact List.map_congr_left fun x hx => ih x hx (nmL_iff.mp h3 x hx)
    rw [this]
/-! the number written -/
theorem evL_digs {b n : Nat} (hb : 2 ≤ b) {W : Nat → Tt} : ∀ p, (∀ q, q < p → n / b ^ q % b ≠ 0 → ev b (W q) = q) → evL b (digsW W b n p) = n % b ^ p
  | 0, _ => by rw [digsW, evL_nil, Nat.pow_zero, Nat.mod_one]
  | p + 1, h => by
    rw [digsW, evL_app, evL_rep, evL_digs hb p fun q hq => h q (by omega), Nat.mod_pow_succ]
    by_cases c : n / b ^ p % b = 0
    · rw [c]; simp
    · rw [h p (by omega) c, Nat.mul_comm, Nat.add_comm]
theorem ev_written {b : Nat} (hb : 2 ≤ b) : ∀ n, ev b (writtenT b n) = n := by
  intro n
  induction n using Nat.strongRecOn with
  | ind n ih =>
    rw [writtenT_eq hb, ev_mk, evL_digs hb n fun q hq _ => ih q hq]
    exact Nat.mod_eq_of_lt (pow_gt hb n)
theorem count_digs {b n : Nat} (hb : 2 ≤ b) (x : Tt) : ∀ p, (digsW (writtenT b) b n p).count x < b
  | 0 => by rw [digsW, List.count_nil]; omega
  | p + 1 => by
    rw [digsW, List.count_append, List.count_replicate]
    by_cases c : writtenT b p = x
    · rw [if_pos (by simpa using c)]
      have h0 : (digsW (writtenT b) b n p).count x = 0 := by
        refine List.count_eq_zero.mpr fun hm => ?_
        obtain ⟨q, hq, _, e⟩ := mem_digsW hm
        have e2 : ev b (writtenT b p) = ev b (writtenT b q) := by rw [c, e]
        rw [ev_written hb, ev_written hb] at e2
        omega
      have := Nat.mod_lt (n / b ^ p) (show b > 0 by omega)
      omega
    · rw [if_neg (by simpa using c), Nat.zero_add]
      exact count_digs hb x p
theorem sd_digs {b n : Nat} (hb : 2 ≤ b) : ∀ p, (∀ q, q < p → n / b ^ q % b ≠ 0 → Nm b (writtenT b q)) → Sd (digsW (writtenT b) b n p)
  | 0, _ => List.Pairwise.nil
  | p + 1, h => by
    rw [digsW]
    refine List.pairwise_append.mpr ⟨?_, sd_digs hb p fun q hq => h q (by omega), fun x hx y hy => ?_⟩
    · exact List.pairwise_replicate.mpr (.inr (ge_refl _))
    · have hx' := List.mem_replicate.mp hx
      obtain ⟨q, hq, c, rfl⟩ := mem_digsW hy
      rw [hx'.2]
      refine ge_of_lt (cmp_ev hb (h q (by omega) c) (h p (by omega) hx'.1) ?_)
      rw [ev_written hb, ev_written hb]; exact hq
theorem nm_written {b : Nat} (hb : 2 ≤ b) : ∀ n, Nm b (writtenT b n) := by
  intro n
  induction n using Nat.strongRecOn with
  | ind n ih =>
    rw [writtenT_eq hb, nm_mk]
    refine ⟨sd_digs hb n fun q hq _ => ih q hq, fun x => count_digs hb x n, nmL_iff.mpr fun x hx => ?_⟩
    obtain ⟨q, hq, _, rfl⟩ := mem_digsW hx
    exact ih q hq
theorem written_ev {b : Nat} (hb : 2 ≤ b) {t : Tt} (h : Nm b t) : writtenT b (ev b t) = t := nm_inj hb (nm_written hb _) h (ev_written hb _)
theorem written_lt {b m n : Nat} (hb : 2 ≤ b) (h : m < n) : cmp (writtenT b m) (writtenT b n) < 0 := cmp_ev hb (nm_written hb m) (nm_written hb n) (by rw [ev_written hb, ev_written hb]; exact h)
theorem told_written {b : Nat} (hb : 2 ≤ b) (n : Nat) : told (writtenT b n) = writtenT b n := (nm_written hb n).told
/-- a step further on, by the greater base, less -/
theorem goodstein {b n v : Nat} (hb : 2 ≤ b) (hv : v < ev (b + 1) (writtenT b n)) : cmp (told (writtenT (b + 1) v)) (told (writtenT b n)) < 0 := by
  have h := written_lt (b := b + 1) (by omega) hv
  rw [written_ev (by omega) ((nm_written hb n).mono (by omega))] at h
  rw [told_written (by omega), told_written hb]
  exact h
/-! can_write: rows of alike branches -/
theorem row_cons {b : Nat} (hb : 1 ≤ b) {y : Tt} {l : List Tt} : okRow b (y :: l) = true ↔ (y :: l)[b - 1]? ≠ some y ∧ okRow b l = true := by
  unfold okRow
  rw [List.all_eq_true, List.all_eq_true]
  constructor
  · intro h
    refine ⟨fun e => ?_, fun i hi => ?_⟩
    · have hl := (List.getElem?_eq_some_iff.mp e).1
      have := h (b - 1) (List.mem_range.mpr hl)
      rw [show b - 1 + 1 - b = 0 by omega, e, decide_eq_true (show b ≤ b - 1 + 1 by omega)] at this
      simp at this
    · have hi' := List.mem_range.mp hi
      have := h (i + 1) (List.mem_range.mpr (by rw [List.length_cons]; omega))
      by_cases c : b ≤ i + 1
      · rw [decide_eq_true (show b ≤ i + 1 + 1 by omega), show i + 1 + 1 - b = (i + 1 - b) + 1 by omega, List.getElem?_cons_succ, List.getElem?_cons_succ] at this
        rw [decide_eq_true c]; exact this
      · rw [decide_eq_false c]; rfl
  · intro ⟨h1, h2⟩ i hi
    have hi' := List.mem_range.mp hi
    rw [List.length_cons] at hi'
    by_cases c : b ≤ i + 1
    · rw [decide_eq_true c, Bool.true_and]
      by_cases c2 : b = i + 1
      · have e : i + 1 - b = 0 := by omega
        have e3 : i = b - 1 := by omega
        rw [e, List.getElem?_cons_zero, e3, decide_eq_false (fun e => h1 e.symm)]
        rfl
      · have := h2 (i - 1) (List.mem_range.mpr (by omega))
        rw [show i - 1 + 1 - b = i - b by omega, decide_eq_true (show b ≤ i - 1 + 1 by omega), Bool.true_and] at this
        rw [show i + 1 - b = (i - b) + 1 by omega, show i = (i - 1) + 1 by omega, List.getElem?_cons_succ, List.getElem?_cons_succ]
        rw [show i - 1 + 1 - b = i - b by omega]
        exact this
    · rw [decide_eq_false c]; rfl
theorem sd_pre {y : Tt} : ∀ {l : List Tt}, Sd l → (∀ z, z ∈ l → ge y z) → ∀ k, l[k]? = some y ↔ k < l.count y
  | [], _, _, k => by simp
  | z :: l, h, hy, k => by
    have hl := List.pairwise_cons.mp h
    by_cases c : z = y
    · subst c
      rw [List.count_cons_self]
      cases k with
      | zero => simp
      | succ k => rw [List.getElem?_cons_succ, sd_pre hl.2 (fun w hw => hl.1 w hw) k]; omega
    · have no : y ∉ z :: l := fun hm => by
        rcases List.mem_cons.mp hm with e | hm
        · exact c e.symm
        · exact c (ge_anti (hl.1 y hm) (hy z List.mem_cons_self))
      rw [List.count_eq_zero.mpr no]
      refine ⟨fun e => absurd (List.mem_of_getElem? e) no, fun e => absurd e (Nat.not_lt_zero _)⟩
theorem row_count {b : Nat} (hb : 1 ≤ b) : ∀ {l : List Tt}, Sd l → (okRow b l = true ↔ ∀ x, l.count x < b)
  | [], _ => by simp [okRow]; omega
  | y :: l, h => by
    have hl := List.pairwise_cons.mp h
    rw [row_cons hb, row_count hb hl.2]
    have key := sd_pre (y := y) h (fun z hz => by
      rcases List.mem_cons.mp hz with e | hz
      · rw [e]; exact ge_refl y
      · exact hl.1 z hz) (b - 1)
    rw [Ne, key]
    constructor
    · intro ⟨h1, h2⟩ x
      by_cases c : y = x
      · subst c; omega
      · rw [List.count_cons_of_ne c]; exact h2 x
    · intro h2
      refine ⟨by have := h2 y; omega, fun x => Nat.lt_of_le_of_lt (List.count_le_count_cons ..) (h2 x)⟩
mutual
def alike : Tt → Nat
  | .mk l => alikeL l 0 l
def alikeL (w : List Tt) (m : Nat) : List Tt → Nat
  | [] => m
  | x :: l => alikeL w (max (max m (w.count x)) (alike x)) l
end
theorem alike_mk (l : List Tt) : alike (.mk l) = alikeL l 0 l := by rw [alike]
theorem alikeL_nil (w : List Tt) (m : Nat) : alikeL w m [] = m := by rw [alikeL]
theorem alikeL_cons (w : List Tt) (m : Nat) (x : Tt) (l : List Tt) : alikeL w m (x :: l) = alikeL w (max (max m (w.count x)) (alike x)) l := by rw [alikeL]
theorem alikeL_snoc (w : List Tt) (x : Tt) : ∀ (l : List Tt) (m : Nat), alikeL w m (l ++ [x]) = max (max (alikeL w m l) (w.count x)) (alike x)
  | [], m => by rw [List.nil_append, alikeL_cons, alikeL_nil, alikeL_nil]
  | y :: l, m => by rw [List.cons_append, alikeL_cons, alikeL_snoc w x l, alikeL_cons]
theorem alikeL_lt {b : Nat} {w : List Tt} : ∀ {l : List Tt} {m : Nat}, alikeL w m l < b ↔ m < b ∧ ∀ x, x ∈ l → w.count x < b ∧ alike x < b
  | [], m => by rw [alikeL_nil]; simp
  | y :: l, m => by
    rw [alikeL, alikeL_lt]
    constructor
    · intro ⟨h1, h2⟩
      refine ⟨by omega, fun x hx => ?_⟩
      rcases List.mem_cons.mp hx with e | hx
      · rw [e]; omega
      · exact h2 x hx
    · intro ⟨h1, h2⟩
      have := h2 y List.mem_cons_self
      exact ⟨by omega, fun x hx => h2 x (List.mem_cons_of_mem _ hx)⟩
/-! trees in falling turn throughout -/
mutual
def Fall : Tt → Prop
  | .mk l => Sd l ∧ FallL l
def FallL : List Tt → Prop
  | [] => True
  | x :: l => Fall x ∧ FallL l
end
theorem fallL_iff : ∀ {l : List Tt}, FallL l ↔ ∀ x, x ∈ l → Fall x
  | [] => by simp [FallL]
  | x :: l => by rw [FallL, fallL_iff (l := l)]; simp
theorem fall_told (t : Tt) : Fall (told t) := by
  induction t using Tt.ind with
  | h l ih =>
    rw [told_mk, Fall]
    refine ⟨toldL_sd _ _ List.Pairwise.nil, fallL_iff.mpr fun x hx => ?_⟩
    have := (toldL_perm l []).mem_iff.mp hx
    rw [List.nil_append] at this
    obtain ⟨y, hy, rfl⟩ := List.mem_map.mp this
    exact ih y hy
theorem cw_nm {b : Nat} (hb : 1 ≤ b) {t : Tt} : Fall t → (cw b t = true ↔ Nm b t) := by
  induction t using Tt.ind with
  | h l ih =>
    rw [Fall]
    intro ⟨h1, h2⟩
    rw [cw_mk, Bool.and_eq_true, row_count hb h1, nm_mk, nmL_iff, cwL_all]
    rw [List.all_eq_true]
    constructor
    · intro ⟨c, d⟩
      exact ⟨h1, c, fun x hx => (ih x hx (fallL_iff.mp h2 x hx)).mp (d _ (List.mem_map.mpr ⟨x, hx, rfl⟩))⟩
    · intro ⟨_, c, d⟩
      refine ⟨c, fun y hy => ?_⟩
      obtain ⟨x, hx, rfl⟩ := List.mem_map.mp hy
      exact (ih x hx (fallL_iff.mp h2 x hx)).mpr (d x hx)
theorem alike_nm {b : Nat} (hb : 1 ≤ b) {t : Tt} : Fall t → (alike t < b ↔ Nm b t) := by
  induction t using Tt.ind with
  | h l ih =>
    rw [Fall]
    intro ⟨h1, h2⟩
    rw [alike_mk, alikeL_lt, nm_mk, nmL_iff]
    constructor
    · intro ⟨_, d⟩
      refine ⟨h1, fun x => ?_, fun x hx => (ih x hx (fallL_iff.mp h2 x hx)).mp (d x hx).2⟩
      by_cases hx : x ∈ l
      · exact (d x hx).1
      · rw [List.count_eq_zero.mpr hx]; omega
    · intro ⟨_, c, d⟩
      exact ⟨by omega, fun x hx => ⟨c x, (ih x hx (fallL_iff.mp h2 x hx)).mpr (d x hx)⟩⟩
theorem cw_written {b : Nat} (hb : 2 ≤ b) (n : Nat) : cw b (told (writtenT b n)) = true := by
  rw [cw_nm (by omega) (fall_told _), told_written hb]; exact nm_written hb n
theorem alike_cw {b : Nat} (hb : 1 ≤ b) (t : Tt) : cw b (told t) = decide (alike (told t) < b) := by
  have h1 := cw_nm hb (fall_told t)
  have h2 := alike_nm hb (fall_told t)
  by_cases c : alike (told t) < b
  · rw [decide_eq_true c]; exact h1.mpr (h2.mp c)
  · rw [decide_eq_false c]
    cases e : cw b (told t) with
    | false => rfl
    | true => exact absurd (h2.mpr (h1.mp e)) c
theorem told_back {b : Nat} (hb : 2 ≤ b) {t : Tt} (h : cw b (told t) = true) : writtenT b (ev b t) = told t := by
  rw [← ev_told b t]
  exact written_ev hb ((cw_nm (by omega) (fall_told t)).mp h)
/-! lengths -/
theorem digs_len {b n : Nat} (hb : 2 ≤ b) {W : Nat → Tt} : ∀ p, (digsW W b n p).length ≤ p * b
  | 0 => by rw [digsW]; exact Nat.zero_le _
  | p + 1 => by
    rw [digsW, List.length_append, List.length_replicate, Nat.succ_mul]
    have := digs_len hb (W := W) (n := n) p
    have := Nat.mod_lt (n / b ^ p) (show b > 0 by omega)
    omega
theorem digs_len400 {b n p : Nat} (hb : 2 ≤ b) (hn : n < GR) (h : p ≤ n) : (digsW (writtenT b) b n p).length ≤ 400 * b := by
  by_cases c : p ≤ 400
  · exact Nat.le_trans (digs_len hb p) (Nat.mul_le_mul_right b c)
  · have hz : n / b ^ 400 = 0 := Nat.div_eq_of_lt (Nat.lt_of_lt_of_le hn (pow_GR hb (Nat.le_refl _)))
    have := digsW_end (W := writtenT b) hz hb (p - 400)
    rw [show 400 + (p - 400) = p by omega] at this
    rw [this]
    exact digs_len hb 400
theorem fit_written {b : Nat} (hb : 2 ≤ b) (hb2 : b ≤ 500) : ∀ n, n < GR → fit (writtenT b n) := by
  intro n
  induction n using Nat.strongRecOn with
  | ind n ih =>
    intro hn
    rw [writtenT_eq hb, fit_mk]
    refine ⟨Nat.le_trans (digs_len400 hb hn (Nat.le_refl _)) ?_, fitL_iff.mpr fun x hx => ?_⟩
    · show 400 * b ≤ 200000
      omega
    · obtain ⟨q, hq, _, rfl⟩ := mem_digsW hx
      exact ih q hq (by omega)
section
variable {P : Program} {w : World} {K : PySem.W.Frag} {mg : Str → Option Value} {base : Heap}
/-! ### _law_written -/
def spLawWritten (k : Nat) : Sp := fun vs H Q _ => ∃ n b : Nat, vs = [.int (n : Nat), .int (b : Nat)] ∧ 2 ≤ b ∧ b ≤ 500 ∧ n < tw k ∧ n < GR ∧ ∀ H' r, New H H' r (writtenT b n) → Q r H'
theorem ok__law_written (T : Txt K mg) : ∀ k, FnOk P w K mg base CX0 k T.a__law_written T.d__law_written ["_law_number_here", "_law_base"] (spLawWritten k)
  | 0 => none_left fun vs H Q E ⟨n, b, _, _, _, h, _⟩ => absurd h (Nat.not_lt_zero _)
  | k + 1 => by
    have G__law_written := ok__law_written T k
    refine T.F__law_written.ok sc__law_written (fun vs H Q E h => ?_) (fun cdv A outer s H vs Q E hr h => ?_)
    · obtain ⟨n, b, rfl, _⟩ := h; rfl
    obtain ⟨n, b, rfl, hb2, hb5, hn, hG, q⟩ := h
    have R__law_written : Room k _ := hr
    have hbpos : (0 : Int) < (b : Int) := by omega
    have hbb : Bits (b : Int) 1000 := Bits.mono (a := 9) (by show ((b : Nat) : Int).natAbs < 512; omega) (by decide)
    refine ⟨_, (pss_cons (ps_set (i := 2) sc__law_written.nd rfl (Or.inl rfl) (pe_lst pa_nil))
      (pss_cons (ps_set (i := 3) sc__law_written.nd rfl (Or.inl rfl) pe_int)
      (pss_cons (ps_while PassesOwn.never (pt_cmpR op_gt (pv 0) pe_int (nomark _)) (pss_cons (ps_for PassesOwn.never rfl (pi_range1 (by rfl) T.z_range (pa_cons (pe_op op_mod (pv 0) (pv 1)) pa_nil)) (pg_name (i := 4) sc__law_written.nd rfl (Or.inl rfl)) (pss_one (ps_expr (pe_bm PySem.F.plainAttrs_list PySem.F.slot_list_insert PySem.F.type_list_insert mt_insert (pv 2) (pa_cons pe_int (pa_cons (pe_call G__law_written R__law_written rfl T.m__law_written T.k__law_written T.b__law_written .nil pass0 (pa_cons (pv 3) (pa_cons (pv 1) pa_nil))) pa_nil))))))
        (pss_cons (ps_set (i := 0) sc__law_written.nd rfl (Or.inl rfl) (pe_op op_fdivW (pv 0) (pv 1)))
        (pss_one (ps_set (i := 3) sc__law_written.nd rfl (Or.inl rfl) (pe_op op_add (pv 3) pe_int))))))
      (pss_one (ps_ret (pv 2)))))), ?_⟩
    refine ⟨(by show 0 ≤ sizeLine; decide), fun F nF => ?_⟩
    have d0 : digsW (writtenT b) b n 0 = [] := rfl
    have e0 : n / b ^ 0 = n := by rw [Nat.pow_zero, Nat.div_one]
    refine ⟨fun m σ H' => ∃ (p : Nat) (o : Option V), σ = [some (.int ((n / b ^ p : Nat) : Int)), some (.int (b : Nat)), some (.ref F), some (.int (p : Nat)), o] ∧ m = n / b ^ p ∧ p ≤ n ∧ Grow H H' F (digsW (writtenT b) b n p), ⟨n, 0, none, by rw [e0]; rfl, by rw [e0], Nat.zero_le _, Grow.start nF⟩, ?_⟩
    rintro m σ H1 ⟨p, o, rfl, rfl, hpn, g⟩
    refine ⟨_, rfl, _, _, rfl, rfl, _, rfl, ite2 (fun c => ?_) (fun c => ?_)⟩
    · have c' : (0 : Int) < ((n / b ^ p : Nat) : Int) := of_decide_eq_true c
      have hpos : 0 < n / b ^ p := by omega
      have hbp : b ^ p ≤ n := by
        by_cases z : n < b ^ p
        · rw [Nat.div_eq_of_lt z] at hpos; omega
        · omega
      have hpn : p < n := by have := pow_gt hb2 p; omega
      have hpk := tw_exp hb2 hn hbp
      have em : ((n / b ^ p : Nat) : Int) % (b : Int) = ((n / b ^ p % b : Nat) : Int) := (Int.natCast_emod _ _).symm
      have hlen := digs_len400 (p := p + 1) hb2 hG (by omega)
      have hml := Nat.mod_lt (n / b ^ p) (show b > 0 by omega)
      have es : digsW (writtenT b) b n (p + 1) = List.replicate (n / b ^ p % b) (writtenT b p) ++ digsW (writtenT b) b n p := rfl
      rw [es, List.length_append, List.length_replicate] at hlen
      generalize n / b ^ p % b = many at em es hml hlen
      refine ⟨fun σ' H' => ∃ o : Option V, σ' = [some (.int ((n / b ^ (p + 1) : Nat) : Int)), some (.int (b : Nat)), some (.ref F), some (.int ((p + 1 : Nat) : Int)), o] ∧ Grow H H' F (digsW (writtenT b) b n (p + 1)), fun σ' H' ⟨o, e, g'⟩ => ⟨n / b ^ (p + 1), ?_, p + 1, o, e, rfl, hpn, g'⟩, ?_⟩
      · rw [Nat.pow_succ, ← Nat.div_div_eq_div_mul]
        exact Nat.div_lt_self hpos hb2
      refine ⟨_, rfl, _, rfl, _, _, rfl, rfl, hbpos, (many : Int), congrArg (fun z => [V.int z]) em, by omega, by omega, ?_⟩
      rw [Int.toNat_natCast]
      refine for_range (fun i σ' H' => ∃ o : Option V, σ' = [some (.int ((n / b ^ p : Nat) : Int)), some (.int (b : Nat)), some (.ref F), some (.int (p : Nat)), o] ∧ Grow H H' F (List.replicate i (writtenT b p) ++ digsW (writtenT b) b n p)) ⟨o, rfl, g⟩ ?_ ?_
      · rintro i σ' H2 hi ⟨o', rfl, g2⟩
        obtain ⟨acc, hF2, _, la2⟩ := g2.at_
        refine ⟨_, rfl, .inl ⟨rfl, _, SqL.of hF2⟩, _, rfl, _, rfl, p, b, rfl, hb2, hb5, hpk, by omega, fun H3 r n3 => ?_⟩
        obtain ⟨av, rv, hD, la, lr, g3⟩ := Grow.put (l := []) g2 n3
        have e : av = [] := List.length_eq_zero_iff.mp la
        subst e
        replace lr : rv.length = (List.replicate i (writtenT b p) ++ digsW (writtenT b) b n p).length := lr
        rw [List.length_append, List.length_replicate] at lr
        refine ⟨F, rv, 0, r, rfl, rfl, hD, lim_line (n := rv.length) (by show _ ≤ 200000; omega), by decide, by decide, ?_⟩
        refine ⟨some (.int (0 + (i : Int))), rfl, ?_⟩
        rw [List.replicate_succ]
        exact g3
      · rintro σ' H2 ⟨o', rfl, g2⟩
        have eb : ((n / b ^ p : Nat) : Int) / (b : Int) = ((n / b ^ (p + 1) : Nat) : Int) := by rw [Nat.pow_succ, ← Nat.div_div_eq_div_mul]; exact (Int.natCast_ediv _ _).symm
        refine ⟨_, rfl, _, rfl, _, _, rfl, rfl, wide_div (b := 1000) hbpos hbb (by decide) (by decide), ?_⟩
        refine ⟨_, rfl, _, _, rfl, rfl, o', ?_, by rw [es]; exact g2⟩
        show [some (V.int (((n / b ^ p : Nat) : Int) / (b : Int))), _, _, some (V.int ((p : Int) + 1)), _] = _
        rw [eb]; rfl
    · have c' : ¬ (0 : Int) < ((n / b ^ p : Nat) : Int) := of_decide_eq_false (Bool.eq_false_iff.mpr c)
      have hz : n / b ^ p = 0 := Nat.eq_zero_of_not_pos fun z => c' (Int.ofNat_lt.mpr z)
      rw [digsW_whole hz hb2] at g
      refine ⟨_, rfl, q _ _ ?_⟩
      rw [writtenT_eq hb2]; exact g.done
/-! ### _law_value -/
def spLawValue (n : Nat) : Sp := fun vs H Q _ => ∃ (v : V) (b : Nat) (t : Tt), vs = [v, .int (b : Nat)] ∧ TreeAt H v t ∧ depth t < n ∧ 2 ≤ b ∧ Bits (b : Int) 1001 ∧ ∀ H', Same H H' → Q (.int ((min (ev b t) GR : Nat) : Int)) H'
theorem GR_one : (1 : Int) * 2 ^ (400 : Int).toNat = ((GR : Nat) : Int) := by decide +kernel
theorem ok__law_value (T : Txt K mg) : ∀ n, FnOk P w K mg base CX0 n T.a__law_value T.d__law_value ["_law_tree_here", "_law_base"] (spLawValue n)
  | 0 => none_left fun vs H Q E ⟨v, b, t, _, _, h, _⟩ => absurd h (Nat.not_lt_zero _)
  | n + 1 => by
    have G__law_value := ok__law_value T n
    refine T.F__law_value.ok sc__law_value (fun vs H Q E h => ?_) (fun cdv A outer s H vs Q E hr h => ?_)
    · obtain ⟨v, b, t, rfl, _⟩ := h; rfl
    obtain ⟨v, b, ⟨bs⟩, rfl, ht, hd, hb2, hbb, q⟩ := h
    have R__law_value : Room n _ := hr
    rw [treeAt_mk] at ht
    obtain ⟨a, xs, rfl, ha, hbs⟩ := ht
    have hbl := hbs.len
    have cp : CPow 1 400 := ⟨by decide, by decide, by decide⟩
    refine ⟨_, (pss_cons (ps_set (i := 2) sc__law_value.nd rfl (Or.inl rfl) pe_int)
      (pss_cons (ps_for PassesOwn.never rfl (pi_list (pv 0)) (pg_name (i := 3) sc__law_value.nd rfl (Or.inl rfl)) (pss_cons (ps_set (i := 4) sc__law_value.nd rfl (Or.inl rfl) (pe_call G__law_value R__law_value rfl T.m__law_value T.k__law_value T.b__law_value .nil pass0 (pa_cons (pv 3) (pa_cons (pv 1) pa_nil))))
        (pss_cons (ps_set (i := 5) sc__law_value.nd rfl (Or.inl rfl) pe_int)
        (pss_cons (ps_for PassesOwn.never rfl (pi_range1 (by rfl) T.z_range (pa_cons (pe_callB (call_min2 rfl) (by rfl) T.z_min (by decide +kernel) (pa_cons (pv 4) (pa_cons pe_int pa_nil))) pa_nil)) (pg_name (i := 6) sc__law_value.nd rfl (Or.inl rfl)) (pss_one (ps_set (i := 5) sc__law_value.nd rfl (Or.inl rfl) (pe_callB (call_min2 rfl) (by rfl) T.z_min (by decide +kernel) (pa_cons (pe_op op_mulX (pv 5) (pv 1)) (pa_cons (pe_op op_shl pe_int pe_int) pa_nil))))))
        (pss_one (ps_set (i := 2) sc__law_value.nd rfl (Or.inl rfl) (pe_callB (call_min2 rfl) (by rfl) T.z_min (by decide +kernel) (pa_cons (pe_op op_add (pv 2) (pv 5)) (pa_cons (pe_op op_shl pe_int pe_int) pa_nil)))))))))
      (pss_one (ps_ret (pv 2))))), ?_⟩
    refine ⟨_, rfl, a, rfl, ⟨_, SqL.of ha⟩, ?_⟩
    refine for_it (walk_list (xs := xs)) (fun i σ H' => Same H H' ∧ ∃ o3 o4 o5 o6, σ = [some (.ref a), some (.int (b : Nat)), some (.int ((min (evL b (bs.take i)) GR : Nat) : Int)), o3, o4, o5, o6]) ⟨Same.refl _, none, none, none, none, by rw [List.take_zero, evL_nil, Nat.zero_min]; rfl⟩ (fun i σ H' _ p => SqL.of (p.1 _ _ ha)) ?_ ?_
    · rintro i x σ H1 H2 hi ⟨s1, o3, o4, o5, o6, rfl⟩ ⟨rfl, hx⟩
      obtain ⟨y, hy, hyt⟩ := hbs.get hx
      have my := List.mem_of_getElem? hy
      refine ⟨_, rfl, _, rfl, x, b, y, rfl, TreeAt.same s1 _ hyt, depth_bs hd my, hb2, hbb, fun H3 s3 => ?_⟩
      refine ⟨_, rfl, _, _, rfl, _, rfl, ?_⟩
      have e400 : (if (400 : Int) < ((min (ev b y) GR : Nat) : Int) then (400 : Int) else ((min (ev b y) GR : Nat) : Int)) = ((min (min (ev b y) GR) 400 : Nat) : Int) := min_int (min (ev b y) GR) 400
      rw [e400]
      refine ⟨by omega, by omega, ?_⟩
      rw [Int.toNat_natCast]
      refine for_range (fun k σ' H' => H' = H3 ∧ ∃ o6, σ' = [some (.ref a), some (.int (b : Nat)), some (.int ((min (evL b (bs.take i)) GR : Nat) : Int)), some x, some (.int ((min (ev b y) GR : Nat) : Int)), some (.int ((powc b k : Nat) : Int)), o6]) ⟨rfl, o6, rfl⟩ ?_ ?_
      · rintro k σ' H4 hk ⟨rfl, o6', rfl⟩
        have bp : Bits ((powc b k : Nat) : Int) 401 := GR_bits.le (by have := powc_le b k; omega)
        refine ⟨_, rfl, _, rfl, _, _, rfl, rfl, bp.mulX hbb (by decide), _, _, rfl, rfl, cp, _, _, rfl, ?_⟩
        have e : (if (1 : Int) * 2 ^ (400 : Int).toNat < ((powc b k : Nat) : Int) * (b : Int) then (1 : Int) * 2 ^ (400 : Int).toNat else ((powc b k : Nat) : Int) * (b : Int)) = ((powc b (k + 1) : Nat) : Int) := by
          rw [GR_one, ← Int.natCast_mul]; exact min_int _ _
        refine ⟨rfl, some (.int (0 + (k : Int))), ?_⟩
        show [_, _, _, _, _, some (V.int (if (1 : Int) * 2 ^ (400 : Int).toNat < ((powc b k : Nat) : Int) * (b : Int) then (1 : Int) * 2 ^ (400 : Int).toNat else ((powc b k : Nat) : Int) * (b : Int))), _] = _
        rw [e]
      · rintro σ' H4 ⟨rfl, o6', rfl⟩
        refine ⟨_, rfl, _, rfl, _, _, rfl, rfl, _, _, rfl, rfl, cp, _, _, rfl, s1.trans s3, some x, some (.int ((min (ev b y) GR : Nat) : Int)), some (.int ((powc b (min (min (ev b y) GR) 400) : Nat) : Int)), o6', ?_⟩
        have e : (if (1 : Int) * 2 ^ (400 : Int).toNat < ((min (evL b (bs.take i)) GR : Nat) : Int) + ((powc b (min (min (ev b y) GR) 400) : Nat) : Int) then (1 : Int) * 2 ^ (400 : Int).toNat else ((min (evL b (bs.take i)) GR : Nat) : Int) + ((powc b (min (min (ev b y) GR) 400) : Nat) : Int)) = ((min (evL b (bs.take (i + 1))) GR : Nat) : Int) := by
          rw [take_more hy, evL_app, evL_cons, evL_nil, GR_one, ← Int.natCast_add, powc_cut hb2 (by decide) (by decide)]
          refine (min_int _ _).trans (congrArg (fun z : Nat => (z : Int)) ?_)
          omega
        show [_, _, some (V.int (if (1 : Int) * 2 ^ (400 : Int).toNat < ((min (evL b (bs.take i)) GR : Nat) : Int) + ((powc b (min (min (ev b y) GR) 400) : Nat) : Int) then (1 : Int) * 2 ^ (400 : Int).toNat else ((min (evL b (bs.take i)) GR : Nat) : Int) + ((powc b (min (min (ev b y) GR) 400) : Nat) : Int))), _, _, _, _] = _
        rw [e]
    · rintro σ H1 ⟨s1, o3, o4, o5, o6, rfl⟩
      rw [hbl, List.take_length, ← ev_mk]
      exact ⟨_, rfl, q _ s1⟩
/-! ### _law_alike -/
def spLawAlike (n : Nat) : Sp := fun vs H Q _ => ∃ (v : V) (t : Tt), vs = [v] ∧ TreeAt H v t ∧ depth t < n ∧ depth t ≤ 60 ∧ fit t ∧ ∀ H', Same H H' → Q (.int ((alike t : Nat) : Int)) H'
theorem toDL_map : ∀ l : List Tt, toDL l = l.map toD
  | [] => by rw [toDL]; rfl
  | x :: l => by rw [toDL, toDL_map l]; rfl
theorem count_dp {l : List Tt} {x : Tt} : (toDL l).countP (fun z => PyData.eqv z (toD x)) = l.count x := by
  rw [toDL_map, List.countP_map, List.count]
  refine List.countP_congr fun y _ => ?_
  show PyData.eqv (toD y) (toD x) = true ↔ (y == x) = true
  rw [eqv_dec, beq_iff_eq, decide_eq_true_eq]
theorem max3_nat (i j k : Nat) : nuMax3 (.int (i : Nat)) (.int (j : Nat)) (.int (k : Nat)) = some (.int ((max (max i j) k : Nat) : Int)) := by
  have h2 : ∀ i j : Nat, nuMax2 (.int (i : Nat)) (.int (j : Nat)) = some (.int ((max i j : Nat) : Int)) := fun i j => by
    show some (if decide ((i : Int) < (j : Int)) = true then V.int (j : Nat) else V.int (i : Nat)) = _
    by_cases c : i < j
    · rw [decide_eq_true (by omega), if_pos rfl, Nat.max_eq_right (by omega)]
    · rw [decide_eq_false (by omega), if_neg (by simp), Nat.max_eq_left (by omega)]
  unfold nuMax3
  rw [h2]
  exact h2 _ _
theorem ok__law_alike (T : Txt K mg) : ∀ n, FnOk P w K mg base CX0 n T.a__law_alike T.d__law_alike ["_law_tree_here"] (spLawAlike n)
  | 0 => none_left fun vs H Q E ⟨v, t, _, _, h, _⟩ => absurd h (Nat.not_lt_zero _)
  | n + 1 => by
    have G__law_alike := ok__law_alike T n
    refine T.F__law_alike.ok sc__law_alike (fun vs H Q E h => ?_) (fun cdv A outer s H vs Q E hr h => ?_)
    · obtain ⟨v, t, rfl, _⟩ := h; rfl
    obtain ⟨v, ⟨bs⟩, rfl, ht, hd, hd60, hf, q⟩ := h
    have R__law_alike : Room n _ := hr
    have hu65 := units65 hr
    have ht0 := ht
    rw [treeAt_mk] at ht
    obtain ⟨a, xs, rfl, ha, hbs⟩ := ht
    have hbl := hbs.len
    have flen := fit_len hf
    refine ⟨_, (pss_cons (ps_set (i := 1) sc__law_alike.nd rfl (Or.inl rfl) pe_int)
      (pss_cons (ps_for PassesOwn.never rfl (pi_list (pv 0)) (pg_name (i := 2) sc__law_alike.nd rfl (Or.inl rfl)) (pss_one (ps_set (i := 1) sc__law_alike.nd rfl (Or.inl rfl) (pe_callB (r := rNuC3 nuMax3) (call_max3Nu rfl) (by rfl) T.z_max (by decide +kernel) (pa_cons (pv 1) (pa_cons (pe_bm PySem.F.plainAttrs_list PySem.F.slot_list_count PySem.F.type_list_count (mt_countD hu65) (pv 0) (pa_cons (pv 2) pa_nil)) (pa_cons (pe_call G__law_alike R__law_alike rfl T.m__law_alike T.k__law_alike T.b__law_alike .nil pass0 (pa_cons (pv 2) pa_nil)) pa_nil)))))))
      (pss_one (ps_ret (pv 1))))), ?_⟩
    refine ⟨_, rfl, a, rfl, ⟨_, SqL.of ha⟩, ?_⟩
    refine for_it (walk_list (xs := xs)) (fun i σ H' => Same H H' ∧ ∃ o2, σ = [some (.ref a), some (.int ((alikeL bs 0 (bs.take i) : Nat) : Int)), o2]) ⟨Same.refl _, none, by rw [List.take_zero, alikeL_nil]; rfl⟩ (fun i σ H' _ p => SqL.of (p.1 _ _ ha)) ?_ ?_
    · rintro i x σ H1 H2 hi ⟨s1, o2, rfl⟩ ⟨rfl, hx⟩
      obtain ⟨y, hy, hyt⟩ := hbs.get hx
      have my := List.mem_of_getElem? hy
      have d2 := depthL_le my
      rw [depth] at hd60
      have dl := TreeAt.dp (K := K) _ (TreeAt.same s1 _ ht0)
      rw [toD_mk] at dl
      refine ⟨_, rfl, _, rfl, .inl ⟨rfl, _, SqL.of (s1 _ _ ha)⟩, _, rfl, a, x, toD y, toDL bs, rfl, rfl, dl, TreeAt.dp _ (TreeAt.same s1 _ hyt), ?_, shaped_tree (by omega), ?_⟩
      · rw [← toD_mk]; exact shaped_tree (by rw [depth]; omega)
      rw [count_dp]
      refine ⟨_, rfl, x, y, rfl, TreeAt.same s1 _ hyt, depth_bs hd my, by omega, fit_bs hf my, fun H3 s3 => ?_⟩
      refine ⟨_, _, _, _, rfl, max3_nat _ _ _, s1.trans s3, some x, ?_⟩
      rw [take_more hy, alikeL_snoc]; rfl
    · rintro σ H1 ⟨s1, o2, rfl⟩
      rw [hbl, List.take_length, ← alike_mk]
      exact ⟨_, rfl, q _ s1⟩
end
section
variable {P : Program} {w : World} {K : PySem.W.Frag} {mg : Str → Option Value} {base : Heap}
/-! ### _law_great -/
def spLawGreat (f1 f2 f3 : Addr) : Sp := fun vs H Q _ => ∃ b : Nat, 2 ≤ b ∧ Bits (b : Int) 1000 ∧ (
  (∃ n : Nat, vs = [.ref f1, .int (n : Nat), .int (b : Nat)] ∧ n < GR ∧ TooBig 299 b n ∧ ∀ H', Same H H' → Q (.int 1) H')
  ∨ (∃ n : Nat, vs = [.ref f2, .int (n : Nat), .int (b : Nat)] ∧ n < GR ∧ knots (writtenT b n) ≤ 300 ∧ GR ≤ val (b + 1) (writtenT b n) ∧ ∀ H', Same H H' → Q (.int 1) H')
  ∨ (∃ v t, vs = [.ref f3, v, .int (b : Nat)] ∧ TreeAt H v t ∧ okT t ∧ cw b (told t) = false ∧ ∀ H', Same H H' → Q (.int 2) H')
  ∨ (∃ v t, vs = [.ref f3, v, .int (b : Nat)] ∧ TreeAt H v t ∧ okT t ∧ cw b (told t) = true ∧ GR ≤ val b t ∧ ∀ H', Same H H' → Q (.int 1) H'))
theorem ok__law_great (T : Txt K mg) : FnOk P w K mg base CX0 45 T.a__law_great T.d__law_great ["_law_ask", "_law_one", "_law_base"] (spLawGreat T.a_written T.a_stepped T.a_number_of) := by
  refine T.F__law_great.ok sc__law_great (fun vs H Q E h => ?_) (fun cdv A outer s H vs Q E hr h => ?_)
  · obtain ⟨b, _, _, ⟨n, rfl, _⟩ | ⟨n, rfl, _⟩ | ⟨v, t, rfl, _⟩ | ⟨v, t, rfl, _⟩⟩ := h <;> rfl
  have hu65 := units65 hr
  have mc : ∀ (a : Addr) (oe : Obj) (pn : List (Addr × Obj)), MtR ((cxOf CX0 P w K mg base ["_law_ask", "_law_one", "_law_base", "error", "_law_others", "_law_kinds"] "_law_great" (defScope s__law_great) T.a__law_great cdv A outer s H E).nox.suite a ((a, oe) :: pn)) "list.count" (rCountD K) := fun a oe pn => mt_countD hu65
  have mi : ∀ (a : Addr) (oe : Obj) (pn : List (Addr × Obj)), MtR ((cxOf CX0 P w K mg base ["_law_ask", "_law_one", "_law_base", "error", "_law_others", "_law_kinds"] "_law_great" (defScope s__law_great) T.a__law_great cdv A outer s H E).nox.suite a ((a, oe) :: pn)) "list.index" (rIndex K) := fun a oe pn => mt_index
  obtain ⟨b, hb2, hbb, ⟨n, rfl, hn, hk, q⟩ | ⟨n, rfl, hn, hk, hv, q⟩ | ⟨v, t, rfl, ht, ho, hc, q⟩ | ⟨v, t, rfl, ht, ho, hc, hv, q⟩⟩ := h
  · have G_ask := ok_written (P := P) (w := w) (base := base) T
    have R_ask : Room 7 _ := hr.mono (by omega)
    have k_ask := T.k_written
    have b_ask := T.b_written
    refine ⟨_, (pss_cons (L2N.ps_try_as (i := 3) (Wout := fun _ _ _ _ => False) rfl rfl sc__law_great.nd rfl rfl ⟨rfl, by decide, Or.inl T.g_HeadError⟩ takesN0 (fun W pn xe tk _ => (pss_one (ps_expr (pe_callLS (i := 0) G_ask R_ask rfl (Or.inl rfl) k_ask b_ask (fun σ => L2N.passAt tk σ) (pa_cons (pv 1) (pa_cons (pv 2) pa_nil)))))) (fun a oe cls d pn hz hf => (pss_cons (ps_set (i := 4) sc__law_great.nd rfl (Or.inl rfl) (pe_lst (pa_cons (pe_callB (r := rIsEx K a cls d) (call_isEx hz hf) (by rfl) T.z_isinstance (by decide +kernel) (pa_cons (pv 3) (pa_cons (pe_glob (v := .ref T.A_BadNumber) rfl T.g_BadNumber rfl) pa_nil))) (pa_cons (pe_callB (r := rIsEx K a cls d) (call_isEx hz hf) (by rfl) T.z_isinstance (by decide +kernel) (pa_cons (pv 3) (pa_cons (pe_glob (v := .ref T.A_BadText) rfl T.g_BadText rfl) pa_nil))) (pa_cons (pe_callB (r := rIsEx K a cls d) (call_isEx hz hf) (by rfl) T.z_isinstance (by decide +kernel) (pa_cons (pv 3) (pa_cons (pe_glob (v := .ref T.A_BadTimes) rfl T.g_BadTimes rfl) pa_nil))) pa_nil)))))
        (pss_cons (ps_set (i := 4) sc__law_great.nd rfl (Or.inl rfl) (pe_op op_cat (pv 4) (pe_lst (pa_cons (pe_callB (r := rIsEx K a cls d) (call_isEx hz hf) (by rfl) T.z_isinstance (by decide +kernel) (pa_cons (pv 3) (pa_cons (pe_glob (v := .ref T.A_BadTree) rfl T.g_BadTree rfl) pa_nil))) (pa_cons (pe_callB (r := rIsEx K a cls d) (call_isEx hz hf) (by rfl) T.z_isinstance (by decide +kernel) (pa_cons (pv 3) (pa_cons (pe_glob (v := .ref T.A_BadWay) rfl T.g_BadWay rfl) pa_nil))) pa_nil)))))
        (pss_cons (ps_set (i := 5) sc__law_great.nd rfl (Or.inl rfl) (pe_lst (pa_cons (pe_callB (r := rIsEx K a cls d) (call_isEx hz hf) (by rfl) T.z_isinstance (by decide +kernel) (pa_cons (pv 3) (pa_cons (pe_glob (v := .ref T.A_TooGreat) rfl T.g_TooGreat rfl) pa_nil))) (pa_cons (pe_callB (r := rIsEx K a cls d) (call_isEx hz hf) (by rfl) T.z_isinstance (by decide +kernel) (pa_cons (pv 3) (pa_cons (pe_glob (v := .ref T.A_BadBase) rfl T.g_BadBase rfl) pa_nil))) pa_nil))))
        (pss_one (ps_ret (pe_ifExp (PW.pt (pw_or (pt_val (pe_callB (r := rAny K) (call_any_hot hz hf) (by rfl) T.z_any (by decide +kernel) (pa_cons (pv 4) pa_nil))) (pw_or1 (pt_cmpR op_ne (pe_bmK K rfl PySem.F.plainAttrs_list PySem.F.slot_list_count PySem.F.type_list_count (r := rCountD K) (mc a oe pn) (pv 5) (pa_cons pe_bl pa_nil)) pe_int (nomark _))))) pe_int (pe_op op_add pe_int (pe_bmK K rfl PySem.F.plainAttrs_list PySem.F.slot_list_index PySem.F.type_list_index (r := rIndex K) (mi a oe pn) (pv 5) (pa_cons pe_bl pa_nil)))))))))))
      (pss_one (ps_ret pe_int))), ?_⟩
    refine ⟨rfl, _, rfl, _, rfl, _, _, rfl, .inl ⟨n, rfl, hn, .inl ⟨b, rfl, hb2, hbb, .inr ⟨hk, fun H1 s1 => ?_⟩⟩⟩⟩
    refine ⟨true, PySem.W.exm_ref T.sb_HeadError T.hd_HeadError T.tt_HeadError T.su_TooGreat, fun _ a na => ?_, fun z => by cases z⟩
    refine ⟨_, rfl, T.A_TooGreat, _, _, false, rfl, rfl, T.ex_TooGreat, rfl, (fun _ h => h), T.kt_TooGreat_BadNumber, ?_⟩
    refine ⟨_, rfl, T.A_TooGreat, _, _, false, rfl, rfl, T.ex_TooGreat, rfl, (fun _ h => h), T.kt_TooGreat_BadText, ?_⟩
    refine ⟨_, rfl, T.A_TooGreat, _, _, false, rfl, rfl, T.ex_TooGreat, rfl, (fun _ h => h), T.kt_TooGreat_BadTimes, ?_⟩
    refine ⟨(by show 3 ≤ sizeLine; decide), fun p1 n_p1 => ?_⟩
    have s_p1 := same_new n_p1 (.lst [V.bl false, .bl false, .bl false])
    have u_p1 : upd H1 p1 (.lst [V.bl false, .bl false, .bl false]) p1 = some (.lst [V.bl false, .bl false, .bl false]) := upd_same
    generalize upd H1 p1 (.lst [V.bl false, .bl false, .bl false]) = G1 at s_p1 u_p1 ⊢
    refine ⟨_, rfl, ?_⟩
    refine ⟨_, rfl, T.A_TooGreat, _, _, false, rfl, rfl, T.ex_TooGreat, rfl, (fun _ h => h), T.kt_TooGreat_BadTree, ?_⟩
    refine ⟨_, rfl, T.A_TooGreat, _, _, false, rfl, rfl, T.ex_TooGreat, rfl, (fun _ h => h), T.kt_TooGreat_BadWay, ?_⟩
    refine ⟨(by show 2 ≤ sizeLine; decide), fun p2 n_p2 => ?_⟩
    have s_p2 := same_new n_p2 (.lst [V.bl false, .bl false])
    have u_p2 : upd G1 p2 (.lst [V.bl false, .bl false]) p2 = some (.lst [V.bl false, .bl false]) := upd_same
    generalize upd G1 p2 (.lst [V.bl false, .bl false]) = G2 at s_p2 u_p2 ⊢
    refine ⟨p1, p2, _, _, rfl, rfl, s_p2 _ _ u_p1, u_p2, (by show 5 ≤ sizeLine; decide), fun p3 n_p3 => ?_⟩
    have s_p3 := same_new n_p3 (.lst ([V.bl false, .bl false, .bl false] ++ [V.bl false, .bl false]))
    have u_p3 : upd G2 p3 (.lst ([V.bl false, .bl false, .bl false] ++ [V.bl false, .bl false])) p3 = some (.lst ([V.bl false, .bl false, .bl false] ++ [V.bl false, .bl false])) := upd_same
    generalize upd G2 p3 (.lst ([V.bl false, .bl false, .bl false] ++ [V.bl false, .bl false])) = G3 at s_p3 u_p3 ⊢
    refine ⟨_, rfl, T.A_TooGreat, _, _, true, rfl, rfl, T.ex_TooGreat, rfl, (fun _ h => h), T.kt_TooGreat_TooGreat, ?_⟩
    refine ⟨_, rfl, T.A_TooGreat, _, _, false, rfl, rfl, T.ex_TooGreat, rfl, (fun _ h => h), T.kt_TooGreat_BadBase, ?_⟩
    refine ⟨(by show 2 ≤ sizeLine; decide), fun p4 n_p4 => ?_⟩
    have s_p4 := same_new n_p4 (.lst [V.bl true, .bl false])
    have u_p4 : upd G3 p4 (.lst [V.bl true, .bl false]) p4 = some (.lst [V.bl true, .bl false]) := upd_same
    generalize upd G3 p4 (.lst [V.bl true, .bl false]) = G4 at s_p4 u_p4 ⊢
    refine ⟨_, rfl, p3, [false, false, false, false, false], rfl, SqL.of (s_p4 _ _ u_p3), _, rfl, iteF ?_⟩
    have cnt : ([PyData.bool true, PyData.bool false].countP fun z => PyData.eqv z (.bool true)) = 1 := by decide +kernel
    refine ⟨_, rfl, .inl ⟨rfl, _, SqL.of u_p4⟩, p4, .bl true, .bool true, [.bool true, .bool false], rfl, rfl, .lst (SqL.of u_p4) (.cons (.bl _) (.cons (.bl _) .nil)), .bl true, by decide +kernel, by decide +kernel, ?_⟩
    rw [cnt]
    refine ⟨rfl, _, rfl, iteF ?_⟩
    refine ⟨_, rfl, .inl ⟨rfl, _, SqL.of u_p4⟩, p4, [.bl true, .bl false], .bl true, 0, .bl true, rfl, rfl, SqL.of u_p4, rfl, rfl, rfl, rfl, fun m z hm => absurd hm (Nat.not_lt_zero m), _, _, rfl, rfl, ?_⟩
    exact q _ (s1.trans (s_p1.trans (s_p2.trans (s_p3.trans s_p4))))
  · have G_ask := ok_stepped (P := P) (w := w) (base := base) T
    have R_ask : Room 42 _ := hr.mono (by omega)
    have k_ask := T.k_stepped
    have b_ask := T.b_stepped
    refine ⟨_, (pss_cons (L2N.ps_try_as (i := 3) (Wout := fun _ _ _ _ => False) rfl rfl sc__law_great.nd rfl rfl ⟨rfl, by decide, Or.inl T.g_HeadError⟩ takesN0 (fun W pn xe tk _ => (pss_one (ps_expr (pe_callLS (i := 0) G_ask R_ask rfl (Or.inl rfl) k_ask b_ask (fun σ => L2N.passAt tk σ) (pa_cons (pv 1) (pa_cons (pv 2) pa_nil)))))) (fun a oe cls d pn hz hf => (pss_cons (ps_set (i := 4) sc__law_great.nd rfl (Or.inl rfl) (pe_lst (pa_cons (pe_callB (r := rIsEx K a cls d) (call_isEx hz hf) (by rfl) T.z_isinstance (by decide +kernel) (pa_cons (pv 3) (pa_cons (pe_glob (v := .ref T.A_BadNumber) rfl T.g_BadNumber rfl) pa_nil))) (pa_cons (pe_callB (r := rIsEx K a cls d) (call_isEx hz hf) (by rfl) T.z_isinstance (by decide +kernel) (pa_cons (pv 3) (pa_cons (pe_glob (v := .ref T.A_BadText) rfl T.g_BadText rfl) pa_nil))) (pa_cons (pe_callB (r := rIsEx K a cls d) (call_isEx hz hf) (by rfl) T.z_isinstance (by decide +kernel) (pa_cons (pv 3) (pa_cons (pe_glob (v := .ref T.A_BadTimes) rfl T.g_BadTimes rfl) pa_nil))) pa_nil)))))
        (pss_cons (ps_set (i := 4) sc__law_great.nd rfl (Or.inl rfl) (pe_op op_cat (pv 4) (pe_lst (pa_cons (pe_callB (r := rIsEx K a cls d) (call_isEx hz hf) (by rfl) T.z_isinstance (by decide +kernel) (pa_cons (pv 3) (pa_cons (pe_glob (v := .ref T.A_BadTree) rfl T.g_BadTree rfl) pa_nil))) (pa_cons (pe_callB (r := rIsEx K a cls d) (call_isEx hz hf) (by rfl) T.z_isinstance (by decide +kernel) (pa_cons (pv 3) (pa_cons (pe_glob (v := .ref T.A_BadWay) rfl T.g_BadWay rfl) pa_nil))) pa_nil)))))
        (pss_cons (ps_set (i := 5) sc__law_great.nd rfl (Or.inl rfl) (pe_lst (pa_cons (pe_callB (r := rIsEx K a cls d) (call_isEx hz hf) (by rfl) T.z_isinstance (by decide +kernel) (pa_cons (pv 3) (pa_cons (pe_glob (v := .ref T.A_TooGreat) rfl T.g_TooGreat rfl) pa_nil))) (pa_cons (pe_callB (r := rIsEx K a cls d) (call_isEx hz hf) (by rfl) T.z_isinstance (by decide +kernel) (pa_cons (pv 3) (pa_cons (pe_glob (v := .ref T.A_BadBase) rfl T.g_BadBase rfl) pa_nil))) pa_nil))))
        (pss_one (ps_ret (pe_ifExp (PW.pt (pw_or (pt_val (pe_callB (r := rAny K) (call_any_hot hz hf) (by rfl) T.z_any (by decide +kernel) (pa_cons (pv 4) pa_nil))) (pw_or1 (pt_cmpR op_ne (pe_bmK K rfl PySem.F.plainAttrs_list PySem.F.slot_list_count PySem.F.type_list_count (r := rCountD K) (mc a oe pn) (pv 5) (pa_cons pe_bl pa_nil)) pe_int (nomark _))))) pe_int (pe_op op_add pe_int (pe_bmK K rfl PySem.F.plainAttrs_list PySem.F.slot_list_index PySem.F.type_list_index (r := rIndex K) (mi a oe pn) (pv 5) (pa_cons pe_bl pa_nil)))))))))))
      (pss_one (ps_ret pe_int))), ?_⟩
    refine ⟨rfl, _, rfl, _, rfl, _, _, rfl, .inl ⟨n, rfl, hn, .inl ⟨b, rfl, hb2, hbb, .inr (.inl ⟨hk, hv, fun H1 s1 => ?_⟩)⟩⟩⟩
    refine ⟨true, PySem.W.exm_ref T.sb_HeadError T.hd_HeadError T.tt_HeadError T.su_TooGreat, fun _ a na => ?_, fun z => by cases z⟩
    refine ⟨_, rfl, T.A_TooGreat, _, _, false, rfl, rfl, T.ex_TooGreat, rfl, (fun _ h => h), T.kt_TooGreat_BadNumber, ?_⟩
    refine ⟨_, rfl, T.A_TooGreat, _, _, false, rfl, rfl, T.ex_TooGreat, rfl, (fun _ h => h), T.kt_TooGreat_BadText, ?_⟩
    refine ⟨_, rfl, T.A_TooGreat, _, _, false, rfl, rfl, T.ex_TooGreat, rfl, (fun _ h => h), T.kt_TooGreat_BadTimes, ?_⟩
    refine ⟨(by show 3 ≤ sizeLine; decide), fun p1 n_p1 => ?_⟩
    have s_p1 := same_new n_p1 (.lst [V.bl false, .bl false, .bl false])
    have u_p1 : upd H1 p1 (.lst [V.bl false, .bl false, .bl false]) p1 = some (.lst [V.bl false, .bl false, .bl false]) := upd_same
    generalize upd H1 p1 (.lst [V.bl false, .bl false, .bl false]) = G1 at s_p1 u_p1 ⊢
    refine ⟨_, rfl, ?_⟩
    refine ⟨_, rfl, T.A_TooGreat, _, _, false, rfl, rfl, T.ex_TooGreat, rfl, (fun _ h => h), T.kt_TooGreat_BadTree, ?_⟩
    refine ⟨_, rfl, T.A_TooGreat, _, _, false, rfl, rfl, T.ex_TooGreat, rfl, (fun _ h => h), T.kt_TooGreat_BadWay, ?_⟩
    refine ⟨(by show 2 ≤ sizeLine; decide), fun p2 n_p2 => ?_⟩
    have s_p2 := same_new n_p2 (.lst [V.bl false, .bl false])
    have u_p2 : upd G1 p2 (.lst [V.bl false, .bl false]) p2 = some (.lst [V.bl false, .bl false]) := upd_same
    generalize upd G1 p2 (.lst [V.bl false, .bl false]) = G2 at s_p2 u_p2 ⊢
    refine ⟨p1, p2, _, _, rfl, rfl, s_p2 _ _ u_p1, u_p2, (by show 5 ≤ sizeLine; decide), fun p3 n_p3 => ?_⟩
    have s_p3 := same_new n_p3 (.lst ([V.bl false, .bl false, .bl false] ++ [V.bl false, .bl false]))
    have u_p3 : upd G2 p3 (.lst ([V.bl false, .bl false, .bl false] ++ [V.bl false, .bl false])) p3 = some (.lst ([V.bl false, .bl false, .bl false] ++ [V.bl false, .bl false])) := upd_same
    generalize upd G2 p3 (.lst ([V.bl false, .bl false, .bl false] ++ [V.bl false, .bl false])) = G3 at s_p3 u_p3 ⊢
    refine ⟨_, rfl, T.A_TooGreat, _, _, true, rfl, rfl, T.ex_TooGreat, rfl, (fun _ h => h), T.kt_TooGreat_TooGreat, ?_⟩
    refine ⟨_, rfl, T.A_TooGreat, _, _, false, rfl, rfl, T.ex_TooGreat, rfl, (fun _ h => h), T.kt_TooGreat_BadBase, ?_⟩
    refine ⟨(by show 2 ≤ sizeLine; decide), fun p4 n_p4 => ?_⟩
    have s_p4 := same_new n_p4 (.lst [V.bl true, .bl false])
    have u_p4 : upd G3 p4 (.lst [V.bl true, .bl false]) p4 = some (.lst [V.bl true, .bl false]) := upd_same
    generalize upd G3 p4 (.lst [V.bl true, .bl false]) = G4 at s_p4 u_p4 ⊢
    refine ⟨_, rfl, p3, [false, false, false, false, false], rfl, SqL.of (s_p4 _ _ u_p3), _, rfl, iteF ?_⟩
    have cnt : ([PyData.bool true, PyData.bool false].countP fun z => PyData.eqv z (.bool true)) = 1 := by decide +kernel
    refine ⟨_, rfl, .inl ⟨rfl, _, SqL.of u_p4⟩, p4, .bl true, .bool true, [.bool true, .bool false], rfl, rfl, .lst (SqL.of u_p4) (.cons (.bl _) (.cons (.bl _) .nil)), .bl true, by decide +kernel, by decide +kernel, ?_⟩
    rw [cnt]
    refine ⟨rfl, _, rfl, iteF ?_⟩
    refine ⟨_, rfl, .inl ⟨rfl, _, SqL.of u_p4⟩, p4, [.bl true, .bl false], .bl true, 0, .bl true, rfl, rfl, SqL.of u_p4, rfl, rfl, rfl, rfl, fun m z hm => absurd hm (Nat.not_lt_zero m), _, _, rfl, rfl, ?_⟩
    exact q _ (s1.trans (s_p1.trans (s_p2.trans (s_p3.trans s_p4))))
  · have G_ask := ok_number_of (P := P) (w := w) (base := base) T
    have R_ask : Room 44 _ := hr
    have k_ask := T.k_number_of
    have b_ask := T.b_number_of
    refine ⟨_, (pss_cons (L2N.ps_try_as (i := 3) (Wout := fun _ _ _ _ => False) rfl rfl sc__law_great.nd rfl rfl ⟨rfl, by decide, Or.inl T.g_HeadError⟩ takesN0 (fun W pn xe tk _ => (pss_one (ps_expr (pe_callLS (i := 0) G_ask R_ask rfl (Or.inl rfl) k_ask b_ask (fun σ => L2N.passAt tk σ) (pa_cons (pv 1) (pa_cons (pv 2) pa_nil)))))) (fun a oe cls d pn hz hf => (pss_cons (ps_set (i := 4) sc__law_great.nd rfl (Or.inl rfl) (pe_lst (pa_cons (pe_callB (r := rIsEx K a cls d) (call_isEx hz hf) (by rfl) T.z_isinstance (by decide +kernel) (pa_cons (pv 3) (pa_cons (pe_glob (v := .ref T.A_BadNumber) rfl T.g_BadNumber rfl) pa_nil))) (pa_cons (pe_callB (r := rIsEx K a cls d) (call_isEx hz hf) (by rfl) T.z_isinstance (by decide +kernel) (pa_cons (pv 3) (pa_cons (pe_glob (v := .ref T.A_BadText) rfl T.g_BadText rfl) pa_nil))) (pa_cons (pe_callB (r := rIsEx K a cls d) (call_isEx hz hf) (by rfl) T.z_isinstance (by decide +kernel) (pa_cons (pv 3) (pa_cons (pe_glob (v := .ref T.A_BadTimes) rfl T.g_BadTimes rfl) pa_nil))) pa_nil)))))
        (pss_cons (ps_set (i := 4) sc__law_great.nd rfl (Or.inl rfl) (pe_op op_cat (pv 4) (pe_lst (pa_cons (pe_callB (r := rIsEx K a cls d) (call_isEx hz hf) (by rfl) T.z_isinstance (by decide +kernel) (pa_cons (pv 3) (pa_cons (pe_glob (v := .ref T.A_BadTree) rfl T.g_BadTree rfl) pa_nil))) (pa_cons (pe_callB (r := rIsEx K a cls d) (call_isEx hz hf) (by rfl) T.z_isinstance (by decide +kernel) (pa_cons (pv 3) (pa_cons (pe_glob (v := .ref T.A_BadWay) rfl T.g_BadWay rfl) pa_nil))) pa_nil)))))
        (pss_cons (ps_set (i := 5) sc__law_great.nd rfl (Or.inl rfl) (pe_lst (pa_cons (pe_callB (r := rIsEx K a cls d) (call_isEx hz hf) (by rfl) T.z_isinstance (by decide +kernel) (pa_cons (pv 3) (pa_cons (pe_glob (v := .ref T.A_TooGreat) rfl T.g_TooGreat rfl) pa_nil))) (pa_cons (pe_callB (r := rIsEx K a cls d) (call_isEx hz hf) (by rfl) T.z_isinstance (by decide +kernel) (pa_cons (pv 3) (pa_cons (pe_glob (v := .ref T.A_BadBase) rfl T.g_BadBase rfl) pa_nil))) pa_nil))))
        (pss_one (ps_ret (pe_ifExp (PW.pt (pw_or (pt_val (pe_callB (r := rAny K) (call_any_hot hz hf) (by rfl) T.z_any (by decide +kernel) (pa_cons (pv 4) pa_nil))) (pw_or1 (pt_cmpR op_ne (pe_bmK K rfl PySem.F.plainAttrs_list PySem.F.slot_list_count PySem.F.type_list_count (r := rCountD K) (mc a oe pn) (pv 5) (pa_cons pe_bl pa_nil)) pe_int (nomark _))))) pe_int (pe_op op_add pe_int (pe_bmK K rfl PySem.F.plainAttrs_list PySem.F.slot_list_index PySem.F.type_list_index (r := rIndex K) (mi a oe pn) (pv 5) (pa_cons pe_bl pa_nil)))))))))))
      (pss_one (ps_ret pe_int))), ?_⟩
    refine ⟨rfl, _, rfl, _, rfl, v, _, rfl, .inl ⟨t, ht, ho, .inl ⟨b, rfl, hb2, hbb, .inl ⟨hc, fun H1 s1 => ?_⟩⟩⟩⟩
    refine ⟨true, PySem.W.exm_ref T.sb_HeadError T.hd_HeadError T.tt_HeadError T.su_BadBase, fun _ a na => ?_, fun z => by cases z⟩
    refine ⟨_, rfl, T.A_BadBase, _, _, false, rfl, rfl, T.ex_BadBase, rfl, (fun _ h => h), T.kt_BadBase_BadNumber, ?_⟩
    refine ⟨_, rfl, T.A_BadBase, _, _, false, rfl, rfl, T.ex_BadBase, rfl, (fun _ h => h), T.kt_BadBase_BadText, ?_⟩
    refine ⟨_, rfl, T.A_BadBase, _, _, false, rfl, rfl, T.ex_BadBase, rfl, (fun _ h => h), T.kt_BadBase_BadTimes, ?_⟩
    refine ⟨(by show 3 ≤ sizeLine; decide), fun p1 n_p1 => ?_⟩
    have s_p1 := same_new n_p1 (.lst [V.bl false, .bl false, .bl false])
    have u_p1 : upd H1 p1 (.lst [V.bl false, .bl false, .bl false]) p1 = some (.lst [V.bl false, .bl false, .bl false]) := upd_same
    generalize upd H1 p1 (.lst [V.bl false, .bl false, .bl false]) = G1 at s_p1 u_p1 ⊢
    refine ⟨_, rfl, ?_⟩
    refine ⟨_, rfl, T.A_BadBase, _, _, false, rfl, rfl, T.ex_BadBase, rfl, (fun _ h => h), T.kt_BadBase_BadTree, ?_⟩
    refine ⟨_, rfl, T.A_BadBase, _, _, false, rfl, rfl, T.ex_BadBase, rfl, (fun _ h => h), T.kt_BadBase_BadWay, ?_⟩
    refine ⟨(by show 2 ≤ sizeLine; decide), fun p2 n_p2 => ?_⟩
    have s_p2 := same_new n_p2 (.lst [V.bl false, .bl false])
    have u_p2 : upd G1 p2 (.lst [V.bl false, .bl false]) p2 = some (.lst [V.bl false, .bl false]) := upd_same
    generalize upd G1 p2 (.lst [V.bl false, .bl false]) = G2 at s_p2 u_p2 ⊢
    refine ⟨p1, p2, _, _, rfl, rfl, s_p2 _ _ u_p1, u_p2, (by show 5 ≤ sizeLine; decide), fun p3 n_p3 => ?_⟩
    have s_p3 := same_new n_p3 (.lst ([V.bl false, .bl false, .bl false] ++ [V.bl false, .bl false]))
    have u_p3 : upd G2 p3 (.lst ([V.bl false, .bl false, .bl false] ++ [V.bl false, .bl false])) p3 = some (.lst ([V.bl false, .bl false, .bl false] ++ [V.bl false, .bl false])) := upd_same
    generalize upd G2 p3 (.lst ([V.bl false, .bl false, .bl false] ++ [V.bl false, .bl false])) = G3 at s_p3 u_p3 ⊢
    refine ⟨_, rfl, T.A_BadBase, _, _, false, rfl, rfl, T.ex_BadBase, rfl, (fun _ h => h), T.kt_BadBase_TooGreat, ?_⟩
    refine ⟨_, rfl, T.A_BadBase, _, _, true, rfl, rfl, T.ex_BadBase, rfl, (fun _ h => h), T.kt_BadBase_BadBase, ?_⟩
    refine ⟨(by show 2 ≤ sizeLine; decide), fun p4 n_p4 => ?_⟩
    have s_p4 := same_new n_p4 (.lst [V.bl false, .bl true])
    have u_p4 : upd G3 p4 (.lst [V.bl false, .bl true]) p4 = some (.lst [V.bl false, .bl true]) := upd_same
    generalize upd G3 p4 (.lst [V.bl false, .bl true]) = G4 at s_p4 u_p4 ⊢
    refine ⟨_, rfl, p3, [false, false, false, false, false], rfl, SqL.of (s_p4 _ _ u_p3), _, rfl, iteF ?_⟩
    have cnt : ([PyData.bool false, PyData.bool true].countP fun z => PyData.eqv z (.bool true)) = 1 := by decide +kernel
    refine ⟨_, rfl, .inl ⟨rfl, _, SqL.of u_p4⟩, p4, .bl true, .bool true, [.bool false, .bool true], rfl, rfl, .lst (SqL.of u_p4) (.cons (.bl _) (.cons (.bl _) .nil)), .bl true, by decide +kernel, by decide +kernel, ?_⟩
    rw [cnt]
    refine ⟨rfl, _, rfl, iteF ?_⟩
    refine ⟨_, rfl, .inl ⟨rfl, _, SqL.of u_p4⟩, p4, [.bl false, .bl true], .bl true, 1, .bl true, rfl, rfl, SqL.of u_p4, rfl, rfl, rfl, rfl, fun m z hm e => by have e0 : m = 0 := (by omega); subst e0; cases e; rfl, _, _, rfl, rfl, ?_⟩
    exact q _ (s1.trans (s_p1.trans (s_p2.trans (s_p3.trans s_p4))))
  · have G_ask := ok_number_of (P := P) (w := w) (base := base) T
    have R_ask : Room 44 _ := hr
    have k_ask := T.k_number_of
    have b_ask := T.b_number_of
    refine ⟨_, (pss_cons (L2N.ps_try_as (i := 3) (Wout := fun _ _ _ _ => False) rfl rfl sc__law_great.nd rfl rfl ⟨rfl, by decide, Or.inl T.g_HeadError⟩ takesN0 (fun W pn xe tk _ => (pss_one (ps_expr (pe_callLS (i := 0) G_ask R_ask rfl (Or.inl rfl) k_ask b_ask (fun σ => L2N.passAt tk σ) (pa_cons (pv 1) (pa_cons (pv 2) pa_nil)))))) (fun a oe cls d pn hz hf => (pss_cons (ps_set (i := 4) sc__law_great.nd rfl (Or.inl rfl) (pe_lst (pa_cons (pe_callB (r := rIsEx K a cls d) (call_isEx hz hf) (by rfl) T.z_isinstance (by decide +kernel) (pa_cons (pv 3) (pa_cons (pe_glob (v := .ref T.A_BadNumber) rfl T.g_BadNumber rfl) pa_nil))) (pa_cons (pe_callB (r := rIsEx K a cls d) (call_isEx hz hf) (by rfl) T.z_isinstance (by decide +kernel) (pa_cons (pv 3) (pa_cons (pe_glob (v := .ref T.A_BadText) rfl T.g_BadText rfl) pa_nil))) (pa_cons (pe_callB (r := rIsEx K a cls d) (call_isEx hz hf) (by rfl) T.z_isinstance (by decide +kernel) (pa_cons (pv 3) (pa_cons (pe_glob (v := .ref T.A_BadTimes) rfl T.g_BadTimes rfl) pa_nil))) pa_nil)))))
        (pss_cons (ps_set (i := 4) sc__law_great.nd rfl (Or.inl rfl) (pe_op op_cat (pv 4) (pe_lst (pa_cons (pe_callB (r := rIsEx K a cls d) (call_isEx hz hf) (by rfl) T.z_isinstance (by decide +kernel) (pa_cons (pv 3) (pa_cons (pe_glob (v := .ref T.A_BadTree) rfl T.g_BadTree rfl) pa_nil))) (pa_cons (pe_callB (r := rIsEx K a cls d) (call_isEx hz hf) (by rfl) T.z_isinstance (by decide +kernel) (pa_cons (pv 3) (pa_cons (pe_glob (v := .ref T.A_BadWay) rfl T.g_BadWay rfl) pa_nil))) pa_nil)))))
        (pss_cons (ps_set (i := 5) sc__law_great.nd rfl (Or.inl rfl) (pe_lst (pa_cons (pe_callB (r := rIsEx K a cls d) (call_isEx hz hf) (by rfl) T.z_isinstance (by decide +kernel) (pa_cons (pv 3) (pa_cons (pe_glob (v := .ref T.A_TooGreat) rfl T.g_TooGreat rfl) pa_nil))) (pa_cons (pe_callB (r := rIsEx K a cls d) (call_isEx hz hf) (by rfl) T.z_isinstance (by decide +kernel) (pa_cons (pv 3) (pa_cons (pe_glob (v := .ref T.A_BadBase) rfl T.g_BadBase rfl) pa_nil))) pa_nil))))
        (pss_one (ps_ret (pe_ifExp (PW.pt (pw_or (pt_val (pe_callB (r := rAny K) (call_any_hot hz hf) (by rfl) T.z_any (by decide +kernel) (pa_cons (pv 4) pa_nil))) (pw_or1 (pt_cmpR op_ne (pe_bmK K rfl PySem.F.plainAttrs_list PySem.F.slot_list_count PySem.F.type_list_count (r := rCountD K) (mc a oe pn) (pv 5) (pa_cons pe_bl pa_nil)) pe_int (nomark _))))) pe_int (pe_op op_add pe_int (pe_bmK K rfl PySem.F.plainAttrs_list PySem.F.slot_list_index PySem.F.type_list_index (r := rIndex K) (mi a oe pn) (pv 5) (pa_cons pe_bl pa_nil)))))))))))
      (pss_one (ps_ret pe_int))), ?_⟩
    refine ⟨rfl, _, rfl, _, rfl, v, _, rfl, .inl ⟨t, ht, ho, .inl ⟨b, rfl, hb2, hbb, .inr (.inr ⟨hc, hv, fun H1 s1 => ?_⟩)⟩⟩⟩
    refine ⟨true, PySem.W.exm_ref T.sb_HeadError T.hd_HeadError T.tt_HeadError T.su_TooGreat, fun _ a na => ?_, fun z => by cases z⟩
    refine ⟨_, rfl, T.A_TooGreat, _, _, false, rfl, rfl, T.ex_TooGreat, rfl, (fun _ h => h), T.kt_TooGreat_BadNumber, ?_⟩
    refine ⟨_, rfl, T.A_TooGreat, _, _, false, rfl, rfl, T.ex_TooGreat, rfl, (fun _ h => h), T.kt_TooGreat_BadText, ?_⟩
    refine ⟨_, rfl, T.A_TooGreat, _, _, false, rfl, rfl, T.ex_TooGreat, rfl, (fun _ h => h), T.kt_TooGreat_BadTimes, ?_⟩
    refine ⟨(by show 3 ≤ sizeLine; decide), fun p1 n_p1 => ?_⟩
    have s_p1 := same_new n_p1 (.lst [V.bl false, .bl false, .bl false])
    have u_p1 : upd H1 p1 (.lst [V.bl false, .bl false, .bl false]) p1 = some (.lst [V.bl false, .bl false, .bl false]) := upd_same
    generalize upd H1 p1 (.lst [V.bl false, .bl false, .bl false]) = G1 at s_p1 u_p1 ⊢
    refine ⟨_, rfl, ?_⟩
    refine ⟨_, rfl, T.A_TooGreat, _, _, false, rfl, rfl, T.ex_TooGreat, rfl, (fun _ h => h), T.kt_TooGreat_BadTree, ?_⟩
    refine ⟨_, rfl, T.A_TooGreat, _, _, false, rfl, rfl, T.ex_TooGreat, rfl, (fun _ h => h), T.kt_TooGreat_BadWay, ?_⟩
    refine ⟨(by show 2 ≤ sizeLine; decide), fun p2 n_p2 => ?_⟩
    have s_p2 := same_new n_p2 (.lst [V.bl false, .bl false])
    have u_p2 : upd G1 p2 (.lst [V.bl false, .bl false]) p2 = some (.lst [V.bl false, .bl false]) := upd_same
    generalize upd G1 p2 (.lst [V.bl false, .bl false]) = G2 at s_p2 u_p2 ⊢
    refine ⟨p1, p2, _, _, rfl, rfl, s_p2 _ _ u_p1, u_p2, (by show 5 ≤ sizeLine; decide), fun p3 n_p3 => ?_⟩
    have s_p3 := same_new n_p3 (.lst ([V.bl false, .bl false, .bl false] ++ [V.bl false, .bl false]))
    have u_p3 : upd G2 p3 (.lst ([V.bl false, .bl false, .bl false] ++ [V.bl false, .bl false])) p3 = some (.lst ([V.bl false, .bl false, .bl false] ++ [V.bl false, .bl false])) := upd_same
    generalize upd G2 p3 (.lst ([V.bl false, .bl false, .bl false] ++ [V.bl false, .bl false])) = G3 at s_p3 u_p3 ⊢
    refine ⟨_, rfl, T.A_TooGreat, _, _, true, rfl, rfl, T.ex_TooGreat, rfl, (fun _ h => h), T.kt_TooGreat_TooGreat, ?_⟩
    refine ⟨_, rfl, T.A_TooGreat, _, _, false, rfl, rfl, T.ex_TooGreat, rfl, (fun _ h => h), T.kt_TooGreat_BadBase, ?_⟩
    refine ⟨(by show 2 ≤ sizeLine; decide), fun p4 n_p4 => ?_⟩
    have s_p4 := same_new n_p4 (.lst [V.bl true, .bl false])
    have u_p4 : upd G3 p4 (.lst [V.bl true, .bl false]) p4 = some (.lst [V.bl true, .bl false]) := upd_same
    generalize upd G3 p4 (.lst [V.bl true, .bl false]) = G4 at s_p4 u_p4 ⊢
    refine ⟨_, rfl, p3, [false, false, false, false, false], rfl, SqL.of (s_p4 _ _ u_p3), _, rfl, iteF ?_⟩
    have cnt : ([PyData.bool true, PyData.bool false].countP fun z => PyData.eqv z (.bool true)) = 1 := by decide +kernel
    refine ⟨_, rfl, .inl ⟨rfl, _, SqL.of u_p4⟩, p4, .bl true, .bool true, [.bool true, .bool false], rfl, rfl, .lst (SqL.of u_p4) (.cons (.bl _) (.cons (.bl _) .nil)), .bl true, by decide +kernel, by decide +kernel, ?_⟩
    rw [cnt]
    refine ⟨rfl, _, rfl, iteF ?_⟩
    refine ⟨_, rfl, .inl ⟨rfl, _, SqL.of u_p4⟩, p4, [.bl true, .bl false], .bl true, 0, .bl true, rfl, rfl, SqL.of u_p4, rfl, rfl, rfl, rfl, fun m z hm => absurd hm (Nat.not_lt_zero m), _, _, rfl, rfl, ?_⟩
    exact q _ (s1.trans (s_p1.trans (s_p2.trans (s_p3.trans s_p4))))
end
section
variable {P : Program} {w : World} {K : PySem.W.Frag} {mg : Str → Option Value} {base : Heap}
theorem cp400 : CPow 1 400 := ⟨by decide, by decide, by decide⟩
theorem okT_written {b n : Nat} (hb : 2 ≤ b) (hn : n < GR) (h : knots (writtenT b n) ≤ 300) : okT (writtenT b n) := ⟨h, by have := written_depth hb 6 n (tw6 hn); omega⟩
theorem tooBig {b n : Nat} (hb : 2 ≤ b) (h : ¬ knots (writtenT b n) ≤ 300) : TooBig 299 b n := by
  unfold TooBig
  rw [writtenT_eq hb, knots] at h
  omega
/-! ### _law_number_right -/
def spNumberRight : Sp := fun vs H Q _ => ∃ n b : Nat, vs = [.int (n : Nat), .int (b : Nat)] ∧ 2 ≤ b ∧ b ≤ 400 ∧ n < GR ∧ ∀ H', Same H H' → Q (.bl true) H'
theorem ok__law_number_right (T : Txt K mg) : FnOk P w K mg base CX0 46 T.a__law_number_right T.d__law_number_right ["_law_number_here", "_law_base"] spNumberRight := by
  have G__law_written := ok__law_written (P := P) (w := w) (base := base) T 6
  have G__law_knots := ok__law_knots (P := P) (w := w) (base := base) T 41
  have G__law_great := ok__law_great (P := P) (w := w) (base := base) T
  have G_written := ok_written (P := P) (w := w) (base := base) T
  have G__law_is_tree := ok__law_is_tree (P := P) (w := w) (base := base) T 41
  have G_number_of := ok_number_of (P := P) (w := w) (base := base) T
  have G__law_spoilt := ok__law_spoilt (P := P) (w := w) (base := base) T 41
  have G__law_value := ok__law_value (P := P) (w := w) (base := base) T 41
  have G_stepped := ok_stepped (P := P) (w := w) (base := base) T
  have G_compare := ok_compare (P := P) (w := w) (base := base) T
  refine T.F__law_number_right.ok sc__law_number_right (fun vs H Q E h => ?_) (fun cdv A outer s H vs Q E hr h => ?_)
  · obtain ⟨n, b, rfl, _⟩ := h; rfl
  obtain ⟨n, b, rfl, hb2, hb4, hn, q⟩ := h
  have R__law_written : Room 6 _ := hr.mono (by omega)
  have R__law_knots : Room 41 _ := hr.mono (by omega)
  have R__law_great : Room 45 _ := hr
  have R_written : Room 7 _ := hr.mono (by omega)
  have R__law_is_tree : Room 41 _ := hr.mono (by omega)
  have R_number_of : Room 44 _ := hr.mono (by omega)
  have R__law_spoilt : Room 42 _ := hr.mono (by omega)
  have R__law_value : Room 41 _ := hr.mono (by omega)
  have R_stepped : Room 42 _ := hr.mono (by omega)
  have R_compare : Room 44 _ := hr.mono (by omega)
  have hu64 := hr.units
  have hbb : Bits (b : Int) 1000 := Bits.mono (a := 9) (by show ((b : Nat) : Int).natAbs < 512; omega) (by decide)
  have hbb1 : Bits ((b + 1 : Nat) : Int) 1000 := Bits.mono (a := 9) (by show ((b + 1 : Nat) : Int).natAbs < 512; omega) (by decide)
  have dw : ∀ {c m : Nat}, 2 ≤ c → m < GR → depth (writtenT c m) < 41 := fun {c m} hc hm => Nat.lt_of_lt_of_le (written_depth hc 6 m (tw6 hm)) (by decide)
  refine ⟨_, (pss_cons (ps_set (i := 2) sc__law_number_right.nd rfl (Or.inl rfl) (pe_call G__law_written R__law_written rfl T.m__law_written T.k__law_written T.b__law_written .nil pass0 (pa_cons (pv 0) (pa_cons (pv 1) pa_nil))))
      (pss_cons (ps_if (pt_cmpR op_gt (pe_call G__law_knots R__law_knots rfl T.m__law_knots T.k__law_knots T.b__law_knots .nil pass0 (pa_cons (pv 2) pa_nil)) pe_int (nomark _)) (pss_one (ps_ret (pe_cmpR op_eq (pe_call G__law_great R__law_great rfl T.m__law_great T.k__law_great T.b__law_great .nil pass0 (pa_cons (pe_glob (v := .ref T.a_written) rfl T.m_written rfl) (pa_cons (pv 0) (pa_cons (pv 1) pa_nil)))) pe_int (nomark _)))) pss_nil)
      (pss_cons (ps_set (i := 3) sc__law_number_right.nd rfl (Or.inl rfl) (pe_call G_written R_written rfl T.m_written T.k_written T.b_written .nil passLN (pa_cons (pv 0) (pa_cons (pv 1) pa_nil))))
      (pss_cons (ps_if (PW.pt (pw_or (pt_not (pt_val (pe_call G__law_is_tree R__law_is_tree rfl T.m__law_is_tree T.k__law_is_tree T.b__law_is_tree .nil pass0 (pa_cons (pv 3) pa_nil)))) (pw_or1 (pt_cmpR (r := rNeD K) (op_neD hu64) (pv 3) (pv 2) (nomark _))))) (pss_one (ps_ret pe_bl)) pss_nil)
      (pss_cons (ps_set (i := 4) sc__law_number_right.nd rfl (Or.inl rfl) (pe_call G_number_of R_number_of rfl T.m_number_of T.k_number_of T.b_number_of .nil passLN (pa_cons (pv 3) (pa_cons (pv 1) pa_nil))))
      (pss_cons (ps_if (PW.pt (pw_or (pt_val (pe_callB (r := rIsi K) call_isi (by rfl) T.z_isinstance (by decide +kernel) (pa_cons (pv 4) (pa_cons (pe_bltn (v := .ty "bool") (u := .type "bool") (by rfl) T.z_bool (by decide +kernel) rfl) pa_nil)))) (pw_or (pt_cmpR op_ne (pv 4) (pv 0) (nomark _)) (pw_or (pt_cmpR (r := rNeD K) (op_neD hu64) (pv 3) (pv 2) (nomark _)) (pw_or1 (pt_not (pt_val (pe_call G__law_spoilt R__law_spoilt rfl T.m__law_spoilt T.k__law_spoilt T.b__law_spoilt .nil pass0 (pa_cons (pv 3) pa_nil))))))))) (pss_one (ps_ret pe_bl)) pss_nil)
      (pss_cons (ps_if (pt_cmpR (r := rNeD K) (op_neD hu64) (pe_call G_written R_written rfl T.m_written T.k_written T.b_written .nil passLN (pa_cons (pv 0) (pa_cons (pv 1) pa_nil))) (pv 2) (nomark _)) (pss_one (ps_ret pe_bl)) pss_nil)
      (pss_cons (ps_set (i := 5) sc__law_number_right.nd rfl (Or.inl rfl) (pe_call G__law_value R__law_value rfl T.m__law_value T.k__law_value T.b__law_value .nil pass0 (pa_cons (pv 2) (pa_cons (pe_op op_add (pv 1) pe_int) pa_nil))))
      (pss_cons (ps_if (pt_cmpR op_ge (pv 5) (pe_op op_shl pe_int pe_int) (nomark _)) (pss_one (ps_ret (pe_cmpR op_eq (pe_call G__law_great R__law_great rfl T.m__law_great T.k__law_great T.b__law_great .nil pass0 (pa_cons (pe_glob (v := .ref T.a_stepped) rfl T.m_stepped rfl) (pa_cons (pv 0) (pa_cons (pv 1) pa_nil)))) pe_int (nomark _)))) pss_nil)
      (pss_cons (ps_set (i := 6) sc__law_number_right.nd rfl (Or.inl rfl) (pe_call G_stepped R_stepped rfl T.m_stepped T.k_stepped T.b_stepped .nil passLN (pa_cons (pv 0) (pa_cons (pv 1) pa_nil))))
      (pss_cons (ps_if (PW.pt (pw_or (pt_val (pe_callB (r := rIsi K) call_isi (by rfl) T.z_isinstance (by decide +kernel) (pa_cons (pv 6) (pa_cons (pe_bltn (v := .ty "bool") (u := .type "bool") (by rfl) T.z_bool (by decide +kernel) rfl) pa_nil)))) (pw_or1 (pt_cmpR op_ne (pv 6) (pe_callB (call_max2 rfl) (by rfl) T.z_max (by decide +kernel) (pa_cons pe_int (pa_cons (pe_op op_sub (pv 5) pe_int) pa_nil))) (nomark _))))) (pss_one (ps_ret pe_bl)) pss_nil)
      (pss_cons (ps_if (PW.pt (pw_or (pt_cmpR op_eq (pv 0) pe_int (nomark _)) (pw_or1 (pt_cmpR op_gt (pe_call G__law_knots R__law_knots rfl T.m__law_knots T.k__law_knots T.b__law_knots .nil pass0 (pa_cons (pe_call G__law_written R__law_written rfl T.m__law_written T.k__law_written T.b__law_written .nil pass0 (pa_cons (pv 6) (pa_cons (pe_op op_add (pv 1) pe_int) pa_nil))) pa_nil)) pe_int (nomark _))))) (pss_one (ps_ret pe_bl)) pss_nil)
      (pss_one (ps_ret (pe_cmpR op_eq (pe_call G_compare R_compare rfl T.m_compare T.k_compare T.b_compare .nil passLN (pa_cons (pe_call G_written R_written rfl T.m_written T.k_written T.b_written .nil passLN (pa_cons (pv 6) (pa_cons (pe_op op_add (pv 1) pe_int) pa_nil))) (pa_cons (pv 2) pa_nil))) (pe_un un_neg pe_int) (nomark _)))))))))))))))), ?_⟩
  refine ⟨_, rfl, _, rfl, n, b, rfl, hb2, by omega, tw6 hn, hn, fun H1 d n1 => ?_⟩
  refine ⟨_, rfl, d, _, rfl, n1.at_, fit_written hb2 (by omega) n hn, dw hb2 hn, fun H2 s2 => ?_⟩
  refine ⟨_, _, rfl, rfl, _, rfl, ?_⟩
  by_cases hk : knots (writtenT b n) ≤ 300
  case neg =>
    rw [decide_eq_true (show (300 : Int) < ((knots (writtenT b n) : Nat) : Int) by omega)]
    refine iteT ⟨_, rfl, _, rfl, b, hb2, hbb, .inl ⟨n, rfl, hn, tooBig hb2 hk, fun H3 s3 => ⟨rfl, ?_⟩⟩⟩
    exact q _ (n1.1.trans (s2.trans s3))
  rw [decide_eq_false (show ¬ (300 : Int) < ((knots (writtenT b n) : Nat) : Int) by omega)]
  refine iteF ?_
  have ho := okT_written hb2 hn hk
  have hd63 := dep63 ho
  have etold := told_written hb2 n
  have hv : val b (writtenT b n) = n := by rw [val_ev hb2, ev_written hb2, Nat.min_eq_left (Nat.le_of_lt hn)]
  refine ⟨_, rfl, _, rfl, _, _, rfl, .inl ⟨n, rfl, hn, .inl ⟨b, rfl, hb2, hbb, .inl ⟨hk, fun H3 f n3 => ?_⟩⟩⟩⟩
  refine ⟨_, rfl, f, _, rfl, n3.at_, ho.fit, ho.dp, fun H4 s4 => ⟨_, rfl, iteF ?_⟩⟩
  have td4 := TreeAt.same (s2.trans (n3.1.trans s4)) _ n1.at_
  have tf4 := TreeAt.same s4 _ n3.at_
  refine ⟨_, rfl, _, rfl, ne_trees tf4 td4 hd63 hd63 ⟨_, rfl, iteNS rfl ?_⟩⟩
  refine ⟨_, rfl, _, rfl, f, _, rfl, .inl ⟨_, tf4, ho, .inl ⟨b, rfl, hb2, hbb, .inr (.inl ⟨cw_written hb2 n, by rw [hv]; exact hn, fun H5 s5 => ?_⟩)⟩⟩⟩
  rw [hv]
  refine ⟨_, rfl, _, _, .type "int", _, false, rfl, ClsV.ty _, .base (.int _), kit_ty (by decide +kernel), _, rfl, iteF ?_⟩
  refine ⟨_, rfl, _, rfl, rfl, _, rfl, iteNS (by simp [eqV]) ?_⟩
  refine ⟨_, rfl, _, rfl, ne_trees (TreeAt.same s5 _ tf4) (TreeAt.same s5 _ td4) hd63 hd63 ⟨_, rfl, iteNS rfl ?_⟩⟩
  obtain ⟨as, ow, nd, sp⟩ := n3.spoil (s4.trans s5)
  refine ⟨_, rfl, f, _, as, rfl, ow, nd, ho.fit, kn_lim ho, ho.dp, fun H6 k6 => ⟨_, rfl, iteF ?_⟩⟩
  obtain ⟨s26, _, _⟩ := sp H6 k6
  have s16 := s2.trans s26
  refine ⟨_, rfl, _, rfl, _, _, rfl, .inl ⟨n, rfl, hn, .inl ⟨b, rfl, hb2, hbb, .inl ⟨hk, fun H7 g n7 => ?_⟩⟩⟩⟩
  have s17 := s16.trans n7.1
  refine ⟨_, rfl, ne_trees n7.at_ (TreeAt.same s17 _ n1.at_) hd63 hd63 ⟨_, rfl, iteNS rfl ?_⟩⟩
  refine ⟨_, rfl, _, rfl, _, _, rfl, rfl, d, b + 1, _, rfl, TreeAt.same s17 _ n1.at_, ho.dp, by omega, hbb1.mono (by decide), fun H8 s8 => ?_⟩
  have s18 := s17.trans s8
  refine ⟨_, rfl, _, _, rfl, rfl, cp400, _, _, rfl, rfl, _, rfl, ?_⟩
  rw [GR_one]
  have hval : val (b + 1) (writtenT b n) = min (ev (b + 1) (writtenT b n)) GR := val_ev (by omega) _
  by_cases hV : GR ≤ ev (b + 1) (writtenT b n)
  case pos =>
    rw [decide_eq_true (show ((GR : Nat) : Int) ≤ ((min (ev (b + 1) (writtenT b n)) GR : Nat) : Int) by omega)]
    refine iteT ⟨_, rfl, _, rfl, b, hb2, hbb, .inr (.inl ⟨n, rfl, hn, hk, by omega, fun H9 s9 => ⟨rfl, ?_⟩⟩)⟩
    exact q _ (n1.1.trans (s18.trans s9))
  rw [decide_eq_false (show ¬ ((GR : Nat) : Int) ≤ ((min (ev (b + 1) (writtenT b n)) GR : Nat) : Int) by omega)]
  refine iteF ?_
  have hmin : min (ev (b + 1) (writtenT b n)) GR = ev (b + 1) (writtenT b n) := Nat.min_eq_left (by omega)
  rw [hmin] at hval ⊢
  refine ⟨_, rfl, _, rfl, _, _, rfl, .inl ⟨n, rfl, hn, .inl ⟨b, rfl, hb2, hbb, .inl ⟨hk, by omega, fun H9 s9 => ?_⟩⟩⟩⟩
  rw [hval]
  have s19 := s18.trans s9
  have hlt : n ≠ 0 → ev (b + 1) (writtenT b n) - 1 < ev (b + 1) (writtenT b n) := fun h0 => by
    have : ev (b + 1) (writtenT b n) ≠ 0 := fun e => by
      have e2 := written_ev (b := b + 1) (by omega) ((nm_written hb2 n).mono (Nat.le_succ b))
      rw [e] at e2
      have e3 : writtenT (b + 1) 0 = .mk [] := rfl
      rw [e3] at e2
      have e4 := ev_written hb2 n
      rw [← e2, ev_mk, evL_nil] at e4
      exact h0 e4.symm
    omega
  have gs := fun v (h : v < ev (b + 1) (writtenT b n)) => goodstein hb2 h
  generalize ev (b + 1) (writtenT b n) = much at hV hlt gs ⊢
  have emax : (if ((much : Nat) : Int) - 1 > 0 then ((much : Nat) : Int) - 1 else 0) = ((much - 1 : Nat) : Int) := by
    by_cases c : ((much : Nat) : Int) - 1 > 0
    · rw [if_pos c]; omega
    · rw [if_neg c]; omega
  refine ⟨_, rfl, _, _, .type "int", _, false, rfl, ClsV.ty _, .base (.int _), kit_ty (by decide +kernel), _, rfl, iteF ?_⟩
  refine ⟨_, rfl, _, rfl, _, _, rfl, rfl, _, _, rfl, ?_⟩
  rw [emax]
  refine ⟨rfl, _, rfl, iteNS (by simp [eqV]) ?_⟩
  refine ⟨_, rfl, rfl, _, rfl, ?_⟩
  by_cases h0 : n = 0
  case pos =>
    subst h0
    exact iteT (q _ (n1.1.trans s19))
  show if decide (V.int (n : Nat) = V.int 0) = true then _ else _
  rw [decide_eq_false (show ¬ V.int (n : Nat) = V.int 0 from fun e => h0 (by injection e with e; omega))]
  refine iteF ?_
  have hlt := hlt h0
  have hmg : much - 1 < GR := by omega
  have e1 : (b : Int) + 1 = ((b + 1 : Nat) : Int) := rfl
  refine ⟨_, rfl, _, rfl, _, _, rfl, rfl, much - 1, b + 1, rfl, by omega, by omega, tw6 hmg, hmg, fun H10 w n10 => ?_⟩
  refine ⟨_, _, rfl, n10.at_, fit_written (by omega) (by omega) _ hmg, dw (by omega) hmg, fun H11 s11 => ?_⟩
  refine ⟨_, _, rfl, rfl, _, rfl, ?_⟩
  by_cases hk2 : knots (writtenT (b + 1) (much - 1)) ≤ 300
  case neg =>
    rw [decide_eq_true (show (300 : Int) < ((knots (writtenT (b + 1) (much - 1)) : Nat) : Int) by omega)]
    exact iteT (q _ (n1.1.trans (s19.trans (n10.1.trans s11))))
  rw [decide_eq_false (show ¬ (300 : Int) < ((knots (writtenT (b + 1) (much - 1)) : Nat) : Int) by omega)]
  refine iteF ?_
  refine ⟨_, rfl, _, rfl, _, _, rfl, rfl, _, _, rfl, .inl ⟨much - 1, rfl, hmg, .inl ⟨b + 1, rfl, by omega, hbb1, .inl ⟨hk2, fun H12 r n12 => ?_⟩⟩⟩⟩
  have s112 := s19.trans (n10.1.trans (s11.trans n12.1))
  refine ⟨_, rfl, r, d, rfl, .inl ⟨_, _, n12.at_, okT_written (by omega) hmg hk2, TreeAt.same s112 _ n1.at_, ho, fun H13 s13 => ?_⟩⟩
  have e : sgn (cmp (told (writtenT (b + 1) (much - 1))) (told (writtenT b n))) = -1 := by
    have := gs (much - 1) hlt
    unfold sgn
    rw [if_neg (by omega), if_neg (by omega)]
  rw [e]
  exact ⟨_, rfl, rfl, q _ (n1.1.trans (s112.trans s13))⟩
/-! ### _law_tree_right -/
def spTreeRight : Sp := fun vs H Q _ => ∃ (v : V) (b : Nat) (t : Tt), vs = [v, .int (b : Nat)] ∧ TreeAt H v t ∧ okT t ∧ 2 ≤ b ∧ Bits (b : Int) 1000 ∧ ∀ H', Same H H' → Q (.bl true) H'
theorem ok__law_tree_right (T : Txt K mg) : FnOk P w K mg base CX0 46 T.a__law_tree_right T.d__law_tree_right ["_law_tree_here", "_law_base"] spTreeRight := by
  have G__law_told := ok__law_told (P := P) (w := w) (base := base) T 41
  have G__law_alike := ok__law_alike (P := P) (w := w) (base := base) T 41
  have G__law_great := ok__law_great (P := P) (w := w) (base := base) T
  have G__law_value := ok__law_value (P := P) (w := w) (base := base) T 41
  have G_number_of := ok_number_of (P := P) (w := w) (base := base) T
  have G_written := ok_written (P := P) (w := w) (base := base) T
  refine T.F__law_tree_right.ok sc__law_tree_right (fun vs H Q E h => ?_) (fun cdv A outer s H vs Q E hr h => ?_)
  · obtain ⟨v, b, t, rfl, _⟩ := h; rfl
  obtain ⟨v, b, t, rfl, ht, ho, hb2, hbb, q⟩ := h
  have R__law_told : Room 42 _ := hr.mono (by omega)
  have R__law_alike : Room 41 _ := hr.mono (by omega)
  have R__law_great : Room 45 _ := hr
  have R__law_value : Room 41 _ := hr.mono (by omega)
  have R_number_of : Room 44 _ := hr.mono (by omega)
  have R_written : Room 7 _ := hr.mono (by omega)
  have hu64 := hr.units
  have o2 := okT_told ho
  have hcw := alike_cw (b := b) (by omega) t
  refine ⟨_, (pss_cons (ps_if (pt_cmpR op_ge (pe_call G__law_alike R__law_alike rfl T.m__law_alike T.k__law_alike T.b__law_alike .nil pass0 (pa_cons (pe_call G__law_told R__law_told rfl T.m__law_told T.k__law_told T.b__law_told .nil pass0 (pa_cons (pv 0) pa_nil)) pa_nil)) (pv 1) (nomark _)) (pss_one (ps_ret (pe_cmpR op_eq (pe_call G__law_great R__law_great rfl T.m__law_great T.k__law_great T.b__law_great .nil pass0 (pa_cons (pe_glob (v := .ref T.a_number_of) rfl T.m_number_of rfl) (pa_cons (pv 0) (pa_cons (pv 1) pa_nil)))) pe_int (nomark _)))) pss_nil)
      (pss_cons (ps_set (i := 2) sc__law_tree_right.nd rfl (Or.inl rfl) (pe_call G__law_value R__law_value rfl T.m__law_value T.k__law_value T.b__law_value .nil pass0 (pa_cons (pv 0) (pa_cons (pv 1) pa_nil))))
      (pss_cons (ps_if (pt_cmpR op_ge (pv 2) (pe_op op_shl pe_int pe_int) (nomark _)) (pss_one (ps_ret (pe_cmpR op_eq (pe_call G__law_great R__law_great rfl T.m__law_great T.k__law_great T.b__law_great .nil pass0 (pa_cons (pe_glob (v := .ref T.a_number_of) rfl T.m_number_of rfl) (pa_cons (pv 0) (pa_cons (pv 1) pa_nil)))) pe_int (nomark _)))) pss_nil)
      (pss_cons (ps_set (i := 3) sc__law_tree_right.nd rfl (Or.inl rfl) (pe_call G_number_of R_number_of rfl T.m_number_of T.k_number_of T.b_number_of .nil passLN (pa_cons (pv 0) (pa_cons (pv 1) pa_nil))))
      (pss_one (ps_ret (pe_and (pe_not (pe_callB (r := rIsi K) call_isi (by rfl) T.z_isinstance (by decide +kernel) (pa_cons (pv 3) (pa_cons (pe_bltn (v := .ty "bool") (u := .type "bool") (by rfl) T.z_bool (by decide +kernel) rfl) pa_nil)))) (pe_and (pe_cmpR op_eq (pv 3) (pv 2) (nomark _)) (pe_one (pe_cmpR (r := rEqD K) (op_eqD hu64) (pe_call G_written R_written rfl T.m_written T.k_written T.b_written .nil passLN (pa_cons (pv 3) (pa_cons (pv 1) pa_nil))) (pe_call G__law_told R__law_told rfl T.m__law_told T.k__law_told T.b__law_told .nil pass0 (pa_cons (pv 0) pa_nil)) (nomark _))))))))))), ?_⟩
  refine ⟨_, rfl, v, t, rfl, ht, ho.fit, ho.dp, fun H1 r n1 => ?_⟩
  refine ⟨r, _, rfl, n1.at_, o2.dp, Nat.le_trans o2.2 (by decide), o2.fit, fun H2 s2 => ?_⟩
  have s02 := n1.1.trans s2
  refine ⟨_, rfl, _, _, rfl, rfl, _, rfl, ?_⟩
  by_cases hA : alike (told t) < b
  case neg =>
    rw [decide_eq_true (show ((b : Nat) : Int) ≤ ((alike (told t) : Nat) : Int) by omega)]
    refine iteT ⟨_, rfl, _, rfl, b, hb2, hbb, .inr (.inr (.inl ⟨v, t, rfl, TreeAt.same s02 _ ht, ho, by rw [hcw, decide_eq_false hA], fun H3 s3 => ⟨rfl, ?_⟩⟩))⟩
    exact q _ (s02.trans s3)
  rw [decide_eq_false (show ¬ ((b : Nat) : Int) ≤ ((alike (told t) : Nat) : Int) by omega)]
  rw [decide_eq_true hA] at hcw
  refine iteF ?_
  refine ⟨_, rfl, _, rfl, v, b, t, rfl, TreeAt.same s02 _ ht, ho.dp, hb2, hbb.mono (by decide), fun H3 s3 => ?_⟩
  have s03 := s02.trans s3
  have hval : val b t = min (ev b t) GR := val_ev hb2 _
  refine ⟨_, rfl, _, _, rfl, rfl, cp400, _, _, rfl, rfl, _, rfl, ?_⟩
  rw [GR_one]
  by_cases hV : GR ≤ ev b t
  case pos =>
    rw [decide_eq_true (show ((GR : Nat) : Int) ≤ ((min (ev b t) GR : Nat) : Int) by omega)]
    refine iteT ⟨_, rfl, _, rfl, b, hb2, hbb, .inr (.inr (.inr ⟨v, t, rfl, TreeAt.same s03 _ ht, ho, hcw, by omega, fun H4 s4 => ⟨rfl, ?_⟩⟩))⟩
    exact q _ (s03.trans s4)
  rw [decide_eq_false (show ¬ ((GR : Nat) : Int) ≤ ((min (ev b t) GR : Nat) : Int) by omega)]
  refine iteF ?_
  have hmin : min (ev b t) GR = ev b t := Nat.min_eq_left (by omega)
  rw [hmin] at hval ⊢
  have eb := told_back hb2 hcw
  refine ⟨_, rfl, _, rfl, v, _, rfl, .inl ⟨t, TreeAt.same s03 _ ht, ho, .inl ⟨b, rfl, hb2, hbb, .inr (.inl ⟨hcw, by omega, fun H4 s4 => ?_⟩)⟩⟩⟩
  rw [hval]
  have s04 := s03.trans s4
  refine ⟨_, rfl, _, _, .type "int", _, false, rfl, ClsV.ty _, .base (.int _), kit_ty (by decide +kernel), _, rfl, _, rfl, iteT ?_⟩
  refine ⟨_, rfl, _, rfl, rfl, _, rfl, ?_⟩
  rw [decide_eq_true rfl]
  refine iteT ?_
  refine ⟨_, rfl, _, rfl, _, _, rfl, .inl ⟨ev b t, rfl, by omega, .inl ⟨b, rfl, hb2, hbb, .inl ⟨by rw [eb, knots_told]; exact ho.1, fun H5 r5 n5 => ?_⟩⟩⟩⟩
  have s05 := s04.trans n5.1
  refine ⟨_, rfl, v, t, rfl, TreeAt.same s05 _ ht, ho.fit, ho.dp, fun H6 r6 n6 => ?_⟩
  have a5 := TreeAt.same n6.1 _ n5.at_
  rw [eb] at a5
  refine eq_trees a5 n6.at_ (dep63 o2) (dep63 o2) ?_
  rw [decide_eq_true rfl]
  exact q _ (s05.trans n6.1)
end
section
variable {P : Program} {w : World} {K : PySem.W.Frag} {mg : Str → Option Value} {base : Heap}
theorem bits_sum {a : Nat} : ∀ l : List Int, (∀ n, n ∈ l → Bits n a) → Bits l.sum (a + l.length)
  | [], _ => by
    show (0 : Int).natAbs < 2 ^ (a + 0)
    exact Nat.pow_pos (by decide)
  | x :: l, h => by
    rw [List.sum_cons, List.length_cons]
    exact ((h x List.mem_cons_self).mono (Nat.le_add_right _ _)).add (bits_sum l fun n hn => h n (List.mem_cons_of_mem _ hn))
def NBs : Nat := 1049000
/-! ### law -/
def spLaw (K : PySem.W.Frag) : Sp := fun vs H Q _ => ∃ (a : Addr) (ns : List Int), vs = [.ref a] ∧ SqL K H a (ns.map V.int) ∧ ns.length ≤ 63 ∧ (∀ n, n ∈ ns → Bits n NBs) ∧ ∀ H', Q (.bl true) H'
theorem base_at (z : Int) {k : Int} (h0 : 0 ≤ k) (h1 : k < 4) : ∃ b : Nat, atI [V.int 2, .int 3, .int (2 + z % 9), .int (2 + z % 300)] k = some (.int (b : Nat)) ∧ 2 ≤ b ∧ b ≤ 301 := by
  have a0 := Int.emod_nonneg z (show (9 : Int) ≠ 0 by decide)
  have a1 := Int.emod_lt_of_pos z (show (0 : Int) < 9 by decide)
  have b0 := Int.emod_nonneg z (show (300 : Int) ≠ 0 by decide)
  have b1 := Int.emod_lt_of_pos z (show (0 : Int) < 300 by decide)
  generalize z % 9 = x at a0 a1 ⊢
  generalize z % 300 = y at b0 b1 ⊢
  have h : k = 0 ∨ k = 1 ∨ k = 2 ∨ k = 3 := by omega
  rcases h with h | h | h | h <;> subst h
  · exact ⟨2, rfl, by decide, by decide⟩
  · exact ⟨3, rfl, by decide, by decide⟩
  · refine ⟨(2 + x).toNat, ?_, by omega, by omega⟩
    rw [Int.toNat_of_nonneg (by omega)]; rfl
  · refine ⟨(2 + y).toNat, ?_, by omega, by omega⟩
    rw [Int.toNat_of_nonneg (by omega)]; rfl
theorem most_at {k : Int} (h0 : 0 ≤ k) (h1 : k < 4) : ∃ m : Nat, atI [V.int 30, .int 5000, .int (10 ^ (12 : Int).toNat), .int (1 * 2 ^ (200 : Int).toNat)] k = some (.int (m : Nat)) ∧ 1 ≤ m ∧ m ≤ 2 ^ 200 := by
  have h : k = 0 ∨ k = 1 ∨ k = 2 ∨ k = 3 := by omega
  rcases h with h | h | h | h <;> subst h
  · exact ⟨30, rfl, by decide, by decide⟩
  · exact ⟨5000, rfl, by decide, by decide⟩
  · exact ⟨10 ^ 12, rfl, by decide, by decide⟩
  · exact ⟨2 ^ 200, rfl, by decide, by decide⟩
def RR : List (Nat × Nat) := [(3, 2), (3, 3), (3, 4), (2, 5), (1, 6), (0, 7), (2, 2), (2, 3), (1, 4), (0, 5), (1, 2), (0, 3), (0, 2)]
theorem rr_step : ∀ p ∈ RR, 0 < p.1 → knots (writtenT p.2 p.1) ≤ 300 ∧ val (p.2 + 1) (writtenT p.2 p.1) < GR ∧ (val (p.2 + 1) (writtenT p.2 p.1) - 1, p.2 + 1) ∈ RR := by decide +kernel
theorem rr_b : ∀ p ∈ RR, 2 ≤ p.2 ∧ p.2 < 9 ∧ p.1 < 4 := by decide +kernel
theorem small_bits {b : Nat} (h : b < 512) : Bits (b : Int) 1000 := Bits.mono (a := 9) (by show ((b : Nat) : Int).natAbs < 512; omega) (by decide)
theorem GR4 {n : Nat} (h : n < 5) : n < GR := by have := GR_big; omega
theorem okT_of {t : Tt} (k d : Nat) (h1 : knots t ≤ k) (h2 : depth t ≤ d) (hk : k ≤ 300) (hd : d ≤ 40) : okT t := ⟨Nat.le_trans h1 hk, Nat.le_trans h2 hd⟩
theorem ok_law (T : Txt K mg) : FnOk P w K mg base CX0 47 T.a_law T.d_law ["_law_script"] (spLaw K) := by
  have G__law_tree := ok__law_tree (P := P) (w := w) (base := base) T
  have G__law_number := ok__law_number (P := P) (w := w) (base := base) T
  have G__law_number_right := ok__law_number_right (P := P) (w := w) (base := base) T
  have G__law_tree_right := ok__law_tree_right (P := P) (w := w) (base := base) T
  have G_stepped := ok_stepped (P := P) (w := w) (base := base) T
  have G_written := ok_written (P := P) (w := w) (base := base) T
  have G_number_of := ok_number_of (P := P) (w := w) (base := base) T
  refine T.F_law.ok sc_law (fun vs H Q E h => ?_) (fun cdv A outer s H vs Q E hr h => ?_)
  · obtain ⟨a, ns, rfl, _⟩ := h; rfl
  obtain ⟨a, ns, rfl, hS, h63, hB, q⟩ := h
  have R__law_tree : Room 2 _ := hr.mono (by omega)
  have R__law_number : Room 1 _ := hr.mono (by omega)
  have R__law_number_right : Room 46 _ := hr
  have R__law_tree_right : Room 46 _ := hr
  have R_stepped : Room 42 _ := hr.mono (by omega)
  have R_written : Room 7 _ := hr.mono (by omega)
  have R_number_of : Room 44 _ := hr.mono (by omega)
  have hu64 := hr.units
  refine ⟨_, (pss_cons (ps_set (i := 1) sc_law.nd rfl (Or.inl rfl) (pe_callB (r := rSum K) (cr_sum rfl) (by rfl) T.z_sum (by decide +kernel) (pa_cons (pe_slice (r := rSlL K) sl_list (pv 0) po_none (po_some pe_int)) pa_nil)))
      (pss_cons (ps_set (i := 2) sc_law.nd rfl (Or.inl rfl) (pe_ifExp (pt_cmpR (r := rNeD K) (op_neD hu64) (pv 0) (pe_lst pa_nil) (nomark _)) (pe_slice (r := rSlL K) sl_list (pv 0) po_none (po_some pe_int)) (pe_lst (pa_cons pe_int pa_nil))))
      (pss_cons (ps_for PassesOwn.never rfl (pi_enum (by rfl) T.z_enumerate (pa_cons (pv 2) pa_nil)) (pg_tup rfl (pgs_cons (pg_name (i := 3) sc_law.nd rfl (Or.inl rfl)) (pgs_cons (pg_name (i := 4) sc_law.nd rfl (Or.inl rfl)) pgs_nil))) (pss_cons (ps_set (i := 5) sc_law.nd rfl (Or.inl rfl) (pe_call G__law_number R__law_number rfl T.m__law_number T.k__law_number T.b__law_number .nil pass0 (pa_cons (pv 4) (pa_cons (pv 3) (pa_cons (pv 1) pa_nil)))))
        (pss_cons (ps_set (i := 6) sc_law.nd rfl (Or.inl rfl) (pe_ix (r := rIxT K) ix_tup (pe_tup (pa_cons pe_int (pa_cons pe_int (pa_cons (pe_op op_add pe_int (pe_op op_mod (pv 5) pe_int)) (pa_cons (pe_op op_add pe_int (pe_op op_mod (pv 5) pe_int)) pa_nil))))) (pe_op op_mod (pe_op op_add (pv 1) (pv 3)) pe_int) (fun _ _ => rfl)))
        (pss_cons (ps_set (i := 7) sc_law.nd rfl (Or.inl rfl) (pe_ix (r := rIxT K) ix_tup (pe_tup (pa_cons pe_int (pa_cons pe_int (pa_cons (pe_op op_pow pe_int pe_int) (pa_cons (pe_op op_shl pe_int pe_int) pa_nil))))) (pe_op op_mod (pe_op op_add (pe_op op_fdivW (pv 1) pe_int) (pv 3)) pe_int) (fun _ _ => rfl)))
        (pss_cut2 (ps_if (pt_cmpR op_gt (pv 6) pe_int (nomark _)) (pss_one (ps_set (i := 7) sc_law.nd rfl (Or.inl rfl) (pe_op op_mulX pe_int (pv 6)))) pss_nil)
        (pss_one (ps_if (pt_not (pt_val (pe_call G__law_number_right R__law_number_right rfl T.m__law_number_right T.k__law_number_right T.b__law_number_right .nil pass0 (pa_cons (pe_op op_mod (pe_op op_fdivW (pv 5) pe_int) (pv 7)) (pa_cons (pv 6) pa_nil))))) (pss_one (ps_ret pe_bl)) pss_nil)))))))
      (pss_cons (ps_for PassesOwn.never rfl (pi_list (pe_lst (pa_cons (pe_call G__law_tree R__law_tree rfl T.m__law_tree T.k__law_tree T.b__law_tree .nil pass0 (pa_cons (pv 0) (pa_cons pe_int (pa_cons pe_int pa_nil)))) (pa_cons (pe_call G__law_tree R__law_tree rfl T.m__law_tree T.k__law_tree T.b__law_tree .nil pass0 (pa_cons (pe_revL (pv 0)) (pa_cons pe_int (pa_cons pe_int pa_nil)))) pa_nil)))) (pg_name (i := 8) sc_law.nd rfl (Or.inl rfl)) (pss_one (ps_for PassesOwn.never rfl (pi_list (pe_lst (pa_cons pe_int (pa_cons pe_int (pa_cons (pe_op op_add pe_int (pe_op op_mod (pv 1) pe_int)) (pa_cons (pe_op op_pow pe_int pe_int) pa_nil)))))) (pg_name (i := 6) sc_law.nd rfl (Or.inl rfl)) (pss_one (ps_if (pt_not (pt_val (pe_call G__law_tree_right R__law_tree_right rfl T.m__law_tree_right T.k__law_tree_right T.b__law_tree_right .nil pass0 (pa_cons (pv 8) (pa_cons (pv 6) pa_nil))))) (pss_one (ps_ret pe_bl)) pss_nil)))))
      (pss_cons (ps_par (i := 5) (j := 6) rfl sc_law.nd rfl rfl (by decide) rfl rfl (pa_cons (pe_op op_mod (pv 1) pe_int) (pa_cons pe_int pa_nil)) (by rfl))
      (pss_cons (ps_while PassesOwn.never (PW.pt (pw_and (pt_cmpR op_gt (pv 5) pe_int (nomark _)) (pw_and1 (pt_cmpR op_lt (pv 6) pe_int (nomark _))))) (pss_one (ps_par (i := 5) (j := 6) rfl sc_law.nd rfl rfl (by decide) rfl rfl (pa_cons (pe_call G_stepped R_stepped rfl T.m_stepped T.k_stepped T.b_stepped .nil passLN (pa_cons (pv 5) (pa_cons (pv 6) pa_nil))) (pa_cons (pe_op op_add (pv 6) pe_int) pa_nil)) (by rfl))))
      (pss_cons (ps_if (PW.pt (pw_or (pt_cmpR op_ne (pv 5) pe_int (nomark _)) (pw_or (pt_cmpR (r := rNeD K) (op_neD hu64) (pe_call G_written R_written rfl T.m_written T.k_written T.b_written .nil passLN (pa_cons pe_int (pa_cons pe_int pa_nil))) (pe_lst (pa_cons (pe_lst (pa_cons (pe_lst (pa_cons (pe_lst pa_nil) pa_nil)) pa_nil)) pa_nil)) (nomark _)) (pw_or1 (pt_cmpR op_ne (pe_call G_stepped R_stepped rfl T.m_stepped T.k_stepped T.b_stepped .nil passLN (pa_cons pe_int (pa_cons pe_int pa_nil))) pe_int (nomark _)))))) (pss_one (ps_ret pe_bl)) pss_nil)
      (pss_one (ps_ret (pe_and (pe_cmpR op_eq (pe_call G_number_of R_number_of rfl T.m_number_of T.k_number_of T.b_number_of .nil passLN (pa_cons (pe_lst (pa_cons (pe_lst (pa_cons (pe_lst pa_nil) pa_nil)) (pa_cons (pe_lst pa_nil) pa_nil))) (pa_cons pe_int pa_nil))) pe_int (nomark _)) (pe_and (pe_cmpR (r := rEqD K) (op_eqD hu64) (pe_call G_written R_written rfl T.m_written T.k_written T.b_written .nil passLN (pa_cons pe_int (pa_cons pe_int pa_nil))) (pe_lst pa_nil) (nomark _)) (pe_one (pe_cmpR op_eq (pe_call G_stepped R_stepped rfl T.m_stepped T.k_stepped T.b_stepped .nil passLN (pa_cons pe_int (pa_cons pe_int pa_nil))) pe_int (nomark _)))))))))))))), ?_⟩
  have bNB : ∀ {l : List Int}, (∀ n, n ∈ l → n ∈ ns) → ∀ n, n ∈ l → Bits n NB := fun h n hn => (hB n (h n hn)).mono (by decide)
  -- whole
  refine ⟨_, rfl, _, rfl, a, _, rfl, hS, fun p np => ?_⟩
  have sp := same_new np (.lst (cutV (ns.map V.int) none (some 63)))
  have ecut : ∀ k : Nat, cutV (ns.map V.int) none (some (k : Int)) = (ns.take k).map V.int := fun k => by
    have h := cutV_take (ns.map V.int) k
    rw [List.map_take]
    exact h
  refine ⟨p, ns.take 63, rfl, SqL.of (by rw [upd_same]; exact congrArg (fun z => some (HO.lst z)) (ecut 63)), ?_⟩
  have bw : Bits (ns.take 63).sum NB := by
    refine (bits_sum (a := NBs) _ fun n hn => hB n (List.mem_of_mem_take hn)).mono ?_
    have : NBs + 63 ≤ NB := by decide
    rw [List.length_take]; omega
  show tSeq _ _ _ [some (V.ref a), some (.int (ns.take 63).sum), _, _, _, _, _, _, _] _
  generalize (ns.take 63).sum = wh at bw ⊢
  generalize upd H p (.lst (cutV (ns.map V.int) none (some 63))) = H1 at sp ⊢
  -- cells
  suffices hcells : ∀ (Hc : Hp) (Ce : Addr) (cs : List Int), Same H Hc → Hc Ce = some (.lst (cs.map V.int)) → (∀ n, n ∈ cs → Bits n NB) → cs.length ≤ 6 →
      tSeq _ _ _ [some (V.ref a), some (.int wh), some (.ref Ce), none, none, none, none, none, none] Hc by
    refine ⟨_, rfl, (by show 0 ≤ sizeLine; decide), fun p0 np0 => ?_⟩
    have s0 := sp.trans (same_new np0 (.lst []))
    refine ne_ints (ns := ns) (ms := []) (s0.seq hS) (SqL.of upd_same) ⟨_, rfl, ?_⟩
    refine ite2 (fun c => ?_) (fun _ => ?_)
    · refine ⟨_, rfl, _, rfl, a, _, rfl, s0.seq hS, fun Ce nC => ?_⟩
      refine hcells _ Ce (ns.take 6) (s0.trans (same_new nC _)) (by rw [upd_same]; exact congrArg (fun z => some (HO.lst z)) (ecut 6)) (bNB fun n hn => List.mem_of_mem_take hn) (by rw [List.length_take]; exact Nat.min_le_left _ _)
    · refine ⟨(by show 1 ≤ sizeLine; decide), fun Ce nC => ?_⟩
      refine hcells _ Ce [7] (s0.trans (same_new nC _)) upd_same (fun n hn => ?_) (by decide)
      rw [List.mem_singleton] at hn
      rw [hn]
      exact Bits.mono (a := 3) (by show (7 : Nat) < 8; decide) (by decide)
  intro Hc Ce cs sc hCe hcB hcl
  refine ⟨_, rfl, Ce, _, rfl, SqL.of hCe, ?_⟩
  refine for_it (walk_enum (xs := cs.map V.int)) (fun i σ H' => Same Hc H' ∧ ∃ o3 o4 o5 o6 o7, σ = [some (V.ref a), some (.int wh), some (.ref Ce), o3, o4, o5, o6, o7, none]) ⟨Same.refl _, none, none, none, none, none, rfl⟩ (fun i σ H' _ p => SqL.of (p.1 _ _ hCe)) ?_ ?_
  · rintro i x σ J1 J2 hi ⟨s1, o3, o4, o5, o6, o7, rfl⟩ ⟨Tp, x1, y1, rfl, nT, rfl, hx, hy⟩
    cases hx
    replace hy : (cs.map V.int)[i]? = some y1 := hy
    rw [List.getElem?_map] at hy
    obtain ⟨c, hc, e⟩ := Option.map_eq_some_iff.mp hy
    subst e
    have hci : i < cs.length := (List.getElem?_eq_some_iff.mp hc).1
    have bc := hcB c (List.mem_of_getElem? hc)
    have sT := same_new nT (.tup [.int (i : Nat), .int c])
    have uT : upd J1 Tp (.tup [.int (i : Nat), .int c]) Tp = some (.tup [.int (i : Nat), .int c]) := upd_same
    generalize upd J1 Tp (.tup [.int (i : Nat), .int c]) = J3 at sT uT ⊢
    have s3 := s1.trans sT
    refine ⟨Tp, _, rfl, SqT.of uT, rfl, _, _, rfl, _, _, rfl, rfl, ?_⟩
    refine ⟨_, rfl, _, rfl, _, rfl, c, wh, i, rfl, bc, bw, by omega, fun z bz => ?_⟩
    -- the base
    refine ⟨_, rfl, _, _, rfl, rfl, (by show (0 : Int) < 9; decide), _, _, rfl, rfl, _, rfl, _, _, rfl, rfl, (by show (0 : Int) < 300; decide), _, _, rfl, rfl, (by show 4 ≤ sizeLine; decide), fun Tb nTb => ?_⟩
    have sTb := same_new nTb (.tup [V.int 2, .int 3, .int (2 + z % 9), .int (2 + z % 300)])
    have uTb : upd J3 Tb (.tup [V.int 2, .int 3, .int (2 + z % 9), .int (2 + z % 300)]) Tb = some (.tup [V.int 2, .int 3, .int (2 + z % 9), .int (2 + z % 300)]) := upd_same
    obtain ⟨b, hb, hb2, hb3⟩ := base_at z (Int.emod_nonneg (wh + (i : Int)) (show (4 : Int) ≠ 0 by decide)) (Int.emod_lt_of_pos (wh + (i : Int)) (show (0 : Int) < 4 by decide))
    refine ⟨_, rfl, _, rfl, _, _, rfl, rfl, _, _, rfl, rfl, (by show (0 : Int) < 4; decide), ?_⟩
    refine ⟨Tb, _, _, _, rfl, rfl, SqT.of uTb, hb, ?_⟩
    show tSeq _ _ _ _ (upd J3 Tb (.tup [V.int 2, .int 3, .int (2 + z % 9), .int (2 + z % 300)]))
    clear uTb
    generalize upd J3 Tb (.tup [V.int 2, .int 3, .int (2 + z % 9), .int (2 + z % 300)]) = J4 at sTb ⊢
    clear hb
    -- how great
    refine ⟨_, _, rfl, rfl, (by exact ⟨by decide, by decide, by decide⟩), _, _, rfl, rfl, (by exact ⟨by decide, by decide, by decide⟩), (by show 4 ≤ sizeLine; decide), fun Tm nTm => ?_⟩
    have sTm := same_new nTm (.tup [V.int 30, .int 5000, .int (10 ^ (12 : Int).toNat), .int (1 * 2 ^ (200 : Int).toNat)])
    have uTm : upd J4 Tm (.tup [V.int 30, .int 5000, .int (10 ^ (12 : Int).toNat), .int (1 * 2 ^ (200 : Int).toNat)]) Tm = some (.tup [V.int 30, .int 5000, .int (10 ^ (12 : Int).toNat), .int (1 * 2 ^ (200 : Int).toNat)]) := upd_same
    obtain ⟨m, hm, hm1, hm2⟩ := most_at (Int.emod_nonneg (wh / 4 + (i : Int)) (show (4 : Int) ≠ 0 by decide)) (Int.emod_lt_of_pos (wh / 4 + (i : Int)) (show (0 : Int) < 4 by decide))
    refine ⟨_, rfl, _, _, rfl, rfl, wide_div (b := 4) (by decide) (by decide) (by decide) (by decide), _, rfl, _, _, rfl, rfl, _, _, rfl, rfl, (by show (0 : Int) < 4; decide), ?_⟩
    refine ⟨Tm, _, _, _, rfl, rfl, SqT.of uTm, hm, ?_⟩
    show tCut _ _ _ _ (upd J4 Tm (.tup [V.int 30, .int 5000, .int (10 ^ (12 : Int).toNat), .int (1 * 2 ^ (200 : Int).toNat)]))
    clear uTm
    generalize upd J4 Tm (.tup [V.int 30, .int 5000, .int (10 ^ (12 : Int).toNat), .int (1 * 2 ^ (200 : Int).toNat)]) = J5 at sTm ⊢
    clear hm
    have s5 := s3.trans (sTb.trans sTm)
    refine ⟨fun σ' H' => ∃ m : Nat, σ' = [some (V.ref a), some (.int wh), some (.ref Ce), some (.int (i : Nat)), some (.int c), some (.int z), some (.int (b : Nat)), some (.int (m : Nat)), none] ∧ H' = J5 ∧ 1 ≤ m ∧ m ≤ 2 ^ 200, ?_, ?_⟩
    · refine ⟨_, rfl, _, _, rfl, rfl, _, rfl, ite2 (fun _ => ?_) (fun _ => ?_)⟩
      · refine ⟨_, rfl, _, _, rfl, rfl, ?_, ?_⟩
        · exact Bits.mulX (a := 6) (b := 1000) (by show (60 : Nat) < 64; decide) (small_bits (by omega)) (by decide)
        · refine ⟨60 * b, ?_, rfl, by omega, ?_⟩
          · show [_, _, _, _, _, _, _, some (V.int (60 * (b : Int))), _] = _
            rw [show (60 : Int) * (b : Int) = ((60 * b : Nat) : Int) by omega]
          · have : (2 : Nat) ^ 15 ≤ 2 ^ 200 := Nat.pow_le_pow_right (by decide) (by decide)
            omega
      · exact ⟨m, rfl, rfl, hm1, hm2⟩
    rintro σ' H' ⟨m, rfl, rfl, hm1, hm2⟩
    have n0 : 0 ≤ z / 9 % (m : Int) := Int.emod_nonneg _ (by omega)
    have n1 : z / 9 % (m : Int) < (m : Int) := Int.emod_lt_of_pos _ (by omega)
    refine ⟨_, rfl, _, _, rfl, rfl, wide_div (b := 4) (by decide) (by decide) (by decide) (by decide), _, rfl, _, _, rfl, rfl, (by omega), _, rfl, ?_⟩
    refine ⟨(z / 9 % (m : Int)).toNat, b, by rw [Int.toNat_of_nonneg n0]; rfl, hb2, by omega, ?_, fun J6 s6 => ⟨_, rfl, iteF ?_⟩⟩
    · have h2 : (2 : Nat) ^ 200 ≤ GR := Nat.pow_le_pow_right (by decide) (by decide)
      omega
    exact ⟨s5.trans s6, _, _, _, _, _, rfl⟩
  rintro σ H2 ⟨s2, o3, o4, o5, o6, o7, rfl⟩
  have sH2 := sc.trans s2
  -- the trees
  refine ⟨_, rfl, a, ns, 7, 0, rfl, sH2.seq hS, bNB (fun _ h => h), by decide, by decide, by decide, fun H5 v0 t0 n5 k0 d0 => ?_⟩
  refine ⟨_, rfl, a, _, rfl, (sH2.trans n5.1).seq hS, fun p2 np2 => ?_⟩
  have sp2 := same_new np2 (.lst (ns.map V.int).reverse)
  refine ⟨p2, ns.reverse, 12, 1, rfl, SqL.of (by rw [upd_same, List.map_reverse]), bNB fun n hn => List.mem_reverse.mp hn, by decide, by decide, by decide, fun H6 v1 t1 n6 k1 d1 => ?_⟩
  have s56 : Same H5 H6 := sp2.trans n6.1
  refine ⟨(by show 2 ≤ sizeLine; decide), fun L n_L => ?_⟩
  have s_L := same_new n_L (.lst [v0, v1])
  have u_L : upd H6 L (.lst [v0, v1]) L = some (.lst [v0, v1]) := upd_same
  generalize upd H6 L (.lst [v0, v1]) = H7 at s_L u_L ⊢
  have items : ∀ x, x ∈ [v0, v1] → ∃ t, TreeAt H7 x t ∧ okT t := by
    intro x hx
    simp only [List.mem_cons, List.mem_nil_iff, or_false] at hx
    rcases hx with e | e
    · rw [e]; exact ⟨t0, TreeAt.same (s56.trans s_L) _ n5.at_, okT_of 8 7 k0 d0 (by decide) (by decide)⟩
    · rw [e]; exact ⟨t1, TreeAt.same s_L _ n6.at_, okT_of 13 12 k1 d1 (by decide) (by decide)⟩
  refine ⟨L, rfl, ⟨_, SqL.of u_L⟩, ?_⟩
  refine for_it (walk_list (xs := [v0, v1])) (fun i σ H' => Same H7 H' ∧ ∃ o6 o8, σ = [some (V.ref a), some (.int wh), some (.ref Ce), o3, o4, o5, o6, o7, o8]) ⟨Same.refl _, o6, none, rfl⟩ (fun i σ H' _ p => SqL.of (p.1 _ _ u_L)) ?_ ?_
  · rintro i x σ J1 J2 hi ⟨s1, p6, p8, rfl⟩ ⟨rfl, hx⟩
    obtain ⟨t, tx, ot⟩ := items x (List.mem_of_getElem? hx)
    have w0 := Int.emod_nonneg wh (show (9 : Int) ≠ 0 by decide)
    have w1 := Int.emod_lt_of_pos wh (show (0 : Int) < 9 by decide)
    refine ⟨_, rfl, _, _, rfl, rfl, (by show (0 : Int) < 9; decide), _, _, rfl, rfl, _, _, rfl, rfl, (by exact ⟨by decide, by decide, by decide⟩), (by show 4 ≤ sizeLine; decide), fun M nM => ?_⟩
    have sM := same_new nM (.lst [V.int 2, .int 3, .int (4 + wh % 9), .int (10 ^ (20 : Int).toNat)])
    have uM : upd J2 M (.lst [V.int 2, .int 3, .int (4 + wh % 9), .int (10 ^ (20 : Int).toNat)]) M = some (.lst [V.int 2, .int 3, .int (4 + wh % 9), .int (10 ^ (20 : Int).toNat)]) := upd_same
    generalize upd J2 M (.lst [V.int 2, .int 3, .int (4 + wh % 9), .int (10 ^ (20 : Int).toNat)]) = J3 at sM uM ⊢
    have bases : ∀ y, y ∈ [V.int 2, .int 3, .int (4 + wh % 9), .int (10 ^ (20 : Int).toNat)] → ∃ b : Nat, y = .int (b : Nat) ∧ 2 ≤ b ∧ Bits (b : Int) 1000 := by
      intro y hy
      simp only [List.mem_cons, List.mem_nil_iff, or_false] at hy
      rcases hy with e | e | e | e
      · exact ⟨2, e, by decide, small_bits (by decide)⟩
      · exact ⟨3, e, by decide, small_bits (by decide)⟩
      · refine ⟨(4 + wh % 9).toNat, ?_, by omega, small_bits (by omega)⟩
        rw [e, Int.toNat_of_nonneg (by omega)]
      · refine ⟨10 ^ 20, e, by decide, Bits.mono (a := 70) ?_ (by decide)⟩
        show (10 : Nat) ^ 20 < 2 ^ 70
        decide
    refine ⟨M, rfl, ⟨_, SqL.of uM⟩, ?_⟩
    refine for_it (walk_list (xs := [V.int 2, .int 3, .int (4 + wh % 9), .int (10 ^ (20 : Int).toNat)])) (fun i σ H' => Same J3 H' ∧ ∃ o6, σ = [some (V.ref a), some (.int wh), some (.ref Ce), o3, o4, o5, o6, o7, some x]) ⟨Same.refl _, p6, rfl⟩ (fun i σ H' _ p => SqL.of (p.1 _ _ uM)) ?_ ?_
    · rintro i2 y σ G1 G2 hi2 ⟨g1, p6', rfl⟩ ⟨rfl, hy⟩
      obtain ⟨b, rfl, hb2, hbb⟩ := bases y (List.mem_of_getElem? hy)
      refine ⟨_, rfl, _, rfl, x, b, t, rfl, TreeAt.same (s1.trans (sM.trans g1)) _ tx, ot, hb2, hbb, fun G3 g3 => ⟨_, rfl, iteF ?_⟩⟩
      exact ⟨g1.trans g3, _, rfl⟩
    · rintro σ G1 ⟨g1, p6', rfl⟩
      exact ⟨s1.trans (sM.trans g1), _, _, rfl⟩
  rintro σ H8 ⟨s8, p6, p8, rfl⟩
  -- small numbers
  refine ⟨_, rfl, _, _, rfl, rfl, (by show (0 : Int) < 4; decide), _, _, rfl, ?_⟩
  have k0' := Int.emod_nonneg wh (show (4 : Int) ≠ 0 by decide)
  have k1' := Int.emod_lt_of_pos wh (show (0 : Int) < 4 by decide)
  show tSeq _ _ _ [_, _, _, _, _, some (V.int (wh % 4)), some (V.int 2), _, _] _
  generalize wh % 4 = kz at k0' k1' ⊢
  obtain ⟨k, rfl⟩ : ∃ k : Nat, kz = (k : Int) := ⟨kz.toNat, by omega⟩
  have hk4 : k < 4 := by omega
  have hR : (k, 2) ∈ RR := by
    have : ∀ k : Fin 4, (k.val, 2) ∈ RR := by decide +kernel
    exact this ⟨k, hk4⟩
  refine ⟨fun m σ' H' => ∃ n b : Nat, σ' = [some (V.ref a), some (.int wh), some (.ref Ce), o3, o4, some (.int (n : Nat)), some (.int (b : Nat)), o7, p8] ∧ m = 9 - b ∧ (n, b) ∈ RR, ⟨7, k, 2, rfl, rfl, hR⟩, ?_⟩
  rintro m σ' G ⟨n, b, rfl, rfl, hm⟩
  obtain ⟨hb2, hb9, hn4⟩ := rr_b _ hm
  replace hb2 : 2 ≤ b := hb2
  replace hb9 : b < 9 := hb9
  replace hn4 : n < 4 := hn4
  refine cut_t (fun c H' => H' = G ∧ c = decide (0 < n)) (fun Q' hQ' => ?_) ?_
  · refine ⟨_, rfl, _, _, rfl, rfl, _, rfl, ite2 (fun c => ?_) (fun c => ?_)⟩
    · have c' : (0 : Int) < (n : Int) := of_decide_eq_true c
      refine ⟨_, rfl, _, _, rfl, rfl, _, rfl, hQ' _ _ ⟨rfl, ?_⟩⟩
      rw [decide_eq_true (show (b : Int) < 9 by omega), decide_eq_true (show 0 < n by omega)]
    · have c' : ¬ (0 : Int) < (n : Int) := of_decide_eq_false (Bool.eq_false_iff.mpr c)
      refine hQ' _ _ ⟨rfl, ?_⟩
      exact (decide_eq_false (by omega)).symm
  rintro c H' ⟨rfl, rfl⟩
  refine ite2 (fun c => ?_) (fun c => ?_)
  · have c' : 0 < n := of_decide_eq_true c
    obtain ⟨r1, r2, r3⟩ := rr_step _ hm c'
    refine ⟨fun σ'' H'' => ∃ n' : Nat, σ'' = [some (V.ref a), some (.int wh), some (.ref Ce), o3, o4, some (.int (n' : Nat)), some (.int ((b + 1 : Nat) : Int)), o7, p8] ∧ (n', b + 1) ∈ RR, fun σ'' H'' ⟨n', e, h⟩ => ⟨9 - (b + 1), by omega, n', b + 1, e, rfl, h⟩, ?_⟩
    refine ⟨_, rfl, _, rfl, _, _, rfl, .inl ⟨n, rfl, GR4 (by omega), .inl ⟨b, rfl, hb2, small_bits (by omega), .inl ⟨r1, r2, fun G2 g2 => ?_⟩⟩⟩⟩
    exact ⟨_, rfl, _, _, rfl, rfl, _, _, rfl, _, rfl, r3⟩
  have e0 : n = 0 := by have := of_decide_eq_false (Bool.eq_false_iff.mpr c); omega
  subst e0
  have b2 : Bits (((2 : Nat) : Int)) 1000 := small_bits (by decide)
  have b5 : Bits (((5 : Nat) : Int)) 1000 := small_bits (by decide)
  have w42 : writtenT 2 4 = .mk [.mk [.mk [.mk []]]] := by decide +kernel
  have lt1 : LitE _ (.mk [.mk []]) := lit_lst (lit_cons lit0 lit_nil)
  have lt2 : LitE _ (.mk [.mk [.mk []]]) := lit_lst (lit_cons lt1 lit_nil)
  have lt3 : LitE _ (.mk [.mk [.mk [.mk []]]]) := lit_lst (lit_cons lt2 lit_nil)
  have lt21 : LitE _ (.mk [.mk [.mk []], .mk []]) := lit_lst (lit_cons lt1 (lit_cons lit0 lit_nil))
  refine ⟨_, rfl, rfl, _, rfl, iteNS rfl ?_⟩
  refine ⟨_, _, rfl, .inl ⟨4, rfl, GR4 (by decide), .inl ⟨2, rfl, by decide, b2, .inl ⟨by rw [w42]; decide +kernel, fun G1 r n1 => ?_⟩⟩⟩⟩
  refine lt3 _ _ _ fun G2 w2 sg2 tw2 => ?_
  have tr := TreeAt.same sg2 _ n1.at_
  rw [w42] at tr
  refine ne_trees tr tw2 (by decide +kernel) (by decide +kernel) ⟨_, rfl, iteNS rfl ?_⟩
  have v42 : val 3 (writtenT 2 4) - 1 = 26 := by decide +kernel
  refine ⟨_, _, rfl, .inl ⟨4, rfl, GR4 (by decide), .inl ⟨2, rfl, by decide, b2, .inl ⟨by rw [w42]; decide +kernel, by decide +kernel, fun G3 g3 => ?_⟩⟩⟩⟩
  rw [show (2 : Nat) + 1 = 3 from rfl, v42]
  refine ⟨rfl, _, rfl, iteNS rfl ?_⟩
  dsimp only [tNext, tRet, tAndV, tOp, tCall, tCons]
  refine lt21 _ _ _ fun G4 w4 sg4 tw4 => ?_
  have v3 : val 2 (.mk [.mk [.mk []], .mk []]) = 3 := by decide +kernel
  refine ⟨_, _, rfl, .inl ⟨_, tw4, ⟨by decide +kernel, by decide +kernel⟩, .inl ⟨2, rfl, by decide, b2, .inr (.inl ⟨by decide +kernel, by decide +kernel, fun G5 g5 => ?_⟩)⟩⟩⟩
  rw [v3]
  refine ⟨rfl, _, rfl, iteT ?_⟩
  have w05 : writtenT 5 0 = .mk [] := by decide +kernel
  refine ⟨_, _, rfl, .inl ⟨0, rfl, GR4 (by decide), .inl ⟨5, rfl, by decide, b5, .inl ⟨by rw [w05]; decide +kernel, fun G6 r6 n6 => ?_⟩⟩⟩⟩
  refine lit0 _ _ _ fun G7 w7 sg7 tw7 => ?_
  have tr7 := TreeAt.same sg7 _ n6.at_
  rw [w05] at tr7
  refine eq_trees tr7 tw7 (by decide +kernel) (by decide +kernel) ⟨_, rfl, ?_⟩
  rw [decide_eq_true rfl]
  refine iteT ?_
  have v32 : val 3 (writtenT 2 3) - 1 = 3 := by decide +kernel
  refine ⟨_, _, rfl, .inl ⟨3, rfl, GR4 (by decide), .inl ⟨2, rfl, by decide, b2, .inl ⟨by decide +kernel, by decide +kernel, fun G8 g8 => ?_⟩⟩⟩⟩
  rw [show (2 : Nat) + 1 = 3 from rfl, v32]
  exact ⟨rfl, q _⟩
end
theorem all_mk {l : PySem.W.OpenLaw} {w : World} {K : PySem.W.Frag} {h : Heap} {mg : Str → Option Value} {fa : Addr} (X : K.In h) (G : h.Ns mainGlobals mg) (hfa : mg "law" = some (.ref fa))
    {a_is_tree : Addr} {od0 an0 : Option Addr} {sl0 : Array (Option Value)} {oc0 kV0 dc0 pm0 cd0 ct0 : Value}
    {a_asked_tree : Addr} {od1 an1 : Option Addr} {sl1 : Array (Option Value)} {oc1 kV1 dc1 pm1 cd1 ct1 : Value}
    {a_compared : Addr} {od2 an2 : Option Addr} {sl2 : Array (Option Value)} {oc2 kV2 dc2 pm2 cd2 ct2 : Value}
    {a_merged : Addr} {od3 an3 : Option Addr} {sl3 : Array (Option Value)} {oc3 kV3 dc3 pm3 cd3 ct3 : Value}
    {a_copied : Addr} {od4 an4 : Option Addr} {sl4 : Array (Option Value)} {oc4 kV4 dc4 pm4 cd4 ct4 : Value}
    {a_told_of : Addr} {od5 an5 : Option Addr} {sl5 : Array (Option Value)} {oc5 kV5 dc5 pm5 cd5 ct5 : Value}
    {a_compare : Addr} {od6 an6 : Option Addr} {sl6 : Array (Option Value)} {oc6 kV6 dc6 pm6 cd6 ct6 : Value}
    {a_is_number : Addr} {od7 an7 : Option Addr} {sl7 : Array (Option Value)} {oc7 kV7 dc7 pm7 cd7 ct7 : Value}
    {a_asked_base : Addr} {od8 an8 : Option Addr} {sl8 : Array (Option Value)} {oc8 kV8 dc8 pm8 cd8 ct8 : Value}
    {a_written_of : Addr} {od9 an9 : Option Addr} {sl9 : Array (Option Value)} {oc9 kV9 dc9 pm9 cd9 ct9 : Value}
    {a_written : Addr} {od10 an10 : Option Addr} {sl10 : Array (Option Value)} {oc10 kV10 dc10 pm10 cd10 ct10 : Value}
    {a_can_write : Addr} {od11 an11 : Option Addr} {sl11 : Array (Option Value)} {oc11 kV11 dc11 pm11 cd11 ct11 : Value}
    {a_value_of : Addr} {od12 an12 : Option Addr} {sl12 : Array (Option Value)} {oc12 kV12 dc12 pm12 cd12 ct12 : Value}
    {a_number_of : Addr} {od13 an13 : Option Addr} {sl13 : Array (Option Value)} {oc13 kV13 dc13 pm13 cd13 ct13 : Value}
    {a_stepped : Addr} {od14 an14 : Option Addr} {sl14 : Array (Option Value)} {oc14 kV14 dc14 pm14 cd14 ct14 : Value}
    {a__law_number : Addr} {od15 an15 : Option Addr} {sl15 : Array (Option Value)} {oc15 kV15 dc15 pm15 cd15 ct15 : Value}
    {a__law_tree : Addr} {od16 an16 : Option Addr} {sl16 : Array (Option Value)} {oc16 kV16 dc16 pm16 cd16 ct16 : Value}
    {a__law_more : Addr} {od17 an17 : Option Addr} {sl17 : Array (Option Value)} {oc17 kV17 dc17 pm17 cd17 ct17 : Value}
    {a__law_told : Addr} {od18 an18 : Option Addr} {sl18 : Array (Option Value)} {oc18 kV18 dc18 pm18 cd18 ct18 : Value}
    {a__law_is_tree : Addr} {od19 an19 : Option Addr} {sl19 : Array (Option Value)} {oc19 kV19 dc19 pm19 cd19 ct19 : Value}
    {a__law_knots : Addr} {od20 an20 : Option Addr} {sl20 : Array (Option Value)} {oc20 kV20 dc20 pm20 cd20 ct20 : Value}
    {a__law_own : Addr} {od21 an21 : Option Addr} {sl21 : Array (Option Value)} {oc21 kV21 dc21 pm21 cd21 ct21 : Value}
    {a__law_spoilt : Addr} {od22 an22 : Option Addr} {sl22 : Array (Option Value)} {oc22 kV22 dc22 pm22 cd22 ct22 : Value}
    {a__law_written : Addr} {od23 an23 : Option Addr} {sl23 : Array (Option Value)} {oc23 kV23 dc23 pm23 cd23 ct23 : Value}
    {a__law_value : Addr} {od24 an24 : Option Addr} {sl24 : Array (Option Value)} {oc24 kV24 dc24 pm24 cd24 ct24 : Value}
    {a__law_alike : Addr} {od25 an25 : Option Addr} {sl25 : Array (Option Value)} {oc25 kV25 dc25 pm25 cd25 ct25 : Value}
    {a__law_great : Addr} {od26 an26 : Option Addr} {sl26 : Array (Option Value)} {oc26 kV26 dc26 pm26 cd26 ct26 : Value}
    {a__law_number_right : Addr} {od27 an27 : Option Addr} {sl27 : Array (Option Value)} {oc27 kV27 dc27 pm27 cd27 ct27 : Value}
    {a__law_tree_right : Addr} {od28 an28 : Option Addr} {sl28 : Array (Option Value)} {oc28 kV28 dc28 pm28 cd28 ct28 : Value}
    {a_law : Addr} {od29 an29 : Option Addr} {sl29 : Array (Option Value)} {oc29 kV29 dc29 pm29 cd29 ct29 : Value}
    {t_MOST : Tok}
    {t_DEEPEST : Tok}
    {t_GREATEST : Tok}
    {A_HeadError : Addr}
    {A_BadTree : Addr}
    {A_BadWay : Addr}
    {A_BadTimes : Addr}
    {A_BadNumber : Addr}
    {A_BadBase : Addr}
    {A_BadText : Addr}
    {A_TooGreat : Addr}
    (n0 : PySem.W.nsIn K mainGlobals "is_tree" = some (some (.ref a_is_tree))) (l0 : K.lookup a_is_tree = some ⟨oc0, od0, .func (PySem.W.fnOf "is_tree" "is_tree" (defArgs s_is_tree) (defBody s_is_tree) (defScope s_is_tree) .none kV0 dc0 pm0 an0 cd0 ct0), sl0⟩) (c0 : PySem.W.codeIn K cd0 "is_tree" = true) (k0 : PySem.W.keepIn K (.ref a_is_tree) = true)
    (n1 : PySem.W.nsIn K mainGlobals "asked_tree" = some (some (.ref a_asked_tree))) (l1 : K.lookup a_asked_tree = some ⟨oc1, od1, .func (PySem.W.fnOf "asked_tree" "asked_tree" (defArgs s_asked_tree) (defBody s_asked_tree) (defScope s_asked_tree) .none kV1 dc1 pm1 an1 cd1 ct1), sl1⟩) (c1 : PySem.W.codeIn K cd1 "asked_tree" = true) (k1 : PySem.W.keepIn K (.ref a_asked_tree) = true)
    (n2 : PySem.W.nsIn K mainGlobals "compared" = some (some (.ref a_compared))) (l2 : K.lookup a_compared = some ⟨oc2, od2, .func (PySem.W.fnOf "compared" "compared" (defArgs s_compared) (defBody s_compared) (defScope s_compared) .none kV2 dc2 pm2 an2 cd2 ct2), sl2⟩) (c2 : PySem.W.codeIn K cd2 "compared" = true) (k2 : PySem.W.keepIn K (.ref a_compared) = true)
    (n3 : PySem.W.nsIn K mainGlobals "merged" = some (some (.ref a_merged))) (l3 : K.lookup a_merged = some ⟨oc3, od3, .func (PySem.W.fnOf "merged" "merged" (defArgs s_merged) (defBody s_merged) (defScope s_merged) .none kV3 dc3 pm3 an3 cd3 ct3), sl3⟩) (c3 : PySem.W.codeIn K cd3 "merged" = true) (k3 : PySem.W.keepIn K (.ref a_merged) = true)
    (n4 : PySem.W.nsIn K mainGlobals "copied" = some (some (.ref a_copied))) (l4 : K.lookup a_copied = some ⟨oc4, od4, .func (PySem.W.fnOf "copied" "copied" (defArgs s_copied) (defBody s_copied) (defScope s_copied) .none kV4 dc4 pm4 an4 cd4 ct4), sl4⟩) (c4 : PySem.W.codeIn K cd4 "copied" = true) (k4 : PySem.W.keepIn K (.ref a_copied) = true)
    (n5 : PySem.W.nsIn K mainGlobals "told_of" = some (some (.ref a_told_of))) (l5 : K.lookup a_told_of = some ⟨oc5, od5, .func (PySem.W.fnOf "told_of" "told_of" (defArgs s_told_of) (defBody s_told_of) (defScope s_told_of) .none kV5 dc5 pm5 an5 cd5 ct5), sl5⟩) (c5 : PySem.W.codeIn K cd5 "told_of" = true) (k5 : PySem.W.keepIn K (.ref a_told_of) = true)
    (n6 : PySem.W.nsIn K mainGlobals "compare" = some (some (.ref a_compare))) (l6 : K.lookup a_compare = some ⟨oc6, od6, .func (PySem.W.fnOf "compare" "compare" (defArgs s_compare) (defBody s_compare) (defScope s_compare) .none kV6 dc6 pm6 an6 cd6 ct6), sl6⟩) (c6 : PySem.W.codeIn K cd6 "compare" = true) (k6 : PySem.W.keepIn K (.ref a_compare) = true)
    (n7 : PySem.W.nsIn K mainGlobals "is_number" = some (some (.ref a_is_number))) (l7 : K.lookup a_is_number = some ⟨oc7, od7, .func (PySem.W.fnOf "is_number" "is_number" (defArgs s_is_number) (defBody s_is_number) (defScope s_is_number) .none kV7 dc7 pm7 an7 cd7 ct7), sl7⟩) (c7 : PySem.W.codeIn K cd7 "is_number" = true) (k7 : PySem.W.keepIn K (.ref a_is_number) = true)
    (n8 : PySem.W.nsIn K mainGlobals "asked_base" = some (some (.ref a_asked_base))) (l8 : K.lookup a_asked_base = some ⟨oc8, od8, .func (PySem.W.fnOf "asked_base" "asked_base" (defArgs s_asked_base) (defBody s_asked_base) (defScope s_asked_base) .none kV8 dc8 pm8 an8 cd8 ct8), sl8⟩) (c8 : PySem.W.codeIn K cd8 "asked_base" = true) (k8 : PySem.W.keepIn K (.ref a_asked_base) = true)
    (n9 : PySem.W.nsIn K mainGlobals "written_of" = some (some (.ref a_written_of))) (l9 : K.lookup a_written_of = some ⟨oc9, od9, .func (PySem.W.fnOf "written_of" "written_of" (defArgs s_written_of) (defBody s_written_of) (defScope s_written_of) .none kV9 dc9 pm9 an9 cd9 ct9), sl9⟩) (c9 : PySem.W.codeIn K cd9 "written_of" = true) (k9 : PySem.W.keepIn K (.ref a_written_of) = true)
    (n10 : PySem.W.nsIn K mainGlobals "written" = some (some (.ref a_written))) (l10 : K.lookup a_written = some ⟨oc10, od10, .func (PySem.W.fnOf "written" "written" (defArgs s_written) (defBody s_written) (defScope s_written) .none kV10 dc10 pm10 an10 cd10 ct10), sl10⟩) (c10 : PySem.W.codeIn K cd10 "written" = true) (k10 : PySem.W.keepIn K (.ref a_written) = true)
    (n11 : PySem.W.nsIn K mainGlobals "can_write" = some (some (.ref a_can_write))) (l11 : K.lookup a_can_write = some ⟨oc11, od11, .func (PySem.W.fnOf "can_write" "can_write" (defArgs s_can_write) (defBody s_can_write) (defScope s_can_write) .none kV11 dc11 pm11 an11 cd11 ct11), sl11⟩) (c11 : PySem.W.codeIn K cd11 "can_write" = true) (k11 : PySem.W.keepIn K (.ref a_can_write) = true)
    (n12 : PySem.W.nsIn K mainGlobals "value_of" = some (some (.ref a_value_of))) (l12 : K.lookup a_value_of = some ⟨oc12, od12, .func (PySem.W.fnOf "value_of" "value_of" (defArgs s_value_of) (defBody s_value_of) (defScope s_value_of) .none kV12 dc12 pm12 an12 cd12 ct12), sl12⟩) (c12 : PySem.W.codeIn K cd12 "value_of" = true) (k12 : PySem.W.keepIn K (.ref a_value_of) = true)
    (n13 : PySem.W.nsIn K mainGlobals "number_of" = some (some (.ref a_number_of))) (l13 : K.lookup a_number_of = some ⟨oc13, od13, .func (PySem.W.fnOf "number_of" "number_of" (defArgs s_number_of) (defBody s_number_of) (defScope s_number_of) .none kV13 dc13 pm13 an13 cd13 ct13), sl13⟩) (c13 : PySem.W.codeIn K cd13 "number_of" = true) (k13 : PySem.W.keepIn K (.ref a_number_of) = true)
    (n14 : PySem.W.nsIn K mainGlobals "stepped" = some (some (.ref a_stepped))) (l14 : K.lookup a_stepped = some ⟨oc14, od14, .func (PySem.W.fnOf "stepped" "stepped" (defArgs s_stepped) (defBody s_stepped) (defScope s_stepped) .none kV14 dc14 pm14 an14 cd14 ct14), sl14⟩) (c14 : PySem.W.codeIn K cd14 "stepped" = true) (k14 : PySem.W.keepIn K (.ref a_stepped) = true)
    (n15 : PySem.W.nsIn K mainGlobals "_law_number" = some (some (.ref a__law_number))) (l15 : K.lookup a__law_number = some ⟨oc15, od15, .func (PySem.W.fnOf "_law_number" "_law_number" (defArgs s__law_number) (defBody s__law_number) (defScope s__law_number) .none kV15 dc15 pm15 an15 cd15 ct15), sl15⟩) (c15 : PySem.W.codeIn K cd15 "_law_number" = true) (k15 : PySem.W.keepIn K (.ref a__law_number) = true)
    (n16 : PySem.W.nsIn K mainGlobals "_law_tree" = some (some (.ref a__law_tree))) (l16 : K.lookup a__law_tree = some ⟨oc16, od16, .func (PySem.W.fnOf "_law_tree" "_law_tree" (defArgs s__law_tree) (defBody s__law_tree) (defScope s__law_tree) .none kV16 dc16 pm16 an16 cd16 ct16), sl16⟩) (c16 : PySem.W.codeIn K cd16 "_law_tree" = true) (k16 : PySem.W.keepIn K (.ref a__law_tree) = true)
    (n17 : PySem.W.nsIn K mainGlobals "_law_more" = some (some (.ref a__law_more))) (l17 : K.lookup a__law_more = some ⟨oc17, od17, .func (PySem.W.fnOf "_law_more" "_law_more" (defArgs s__law_more) (defBody s__law_more) (defScope s__law_more) .none kV17 dc17 pm17 an17 cd17 ct17), sl17⟩) (c17 : PySem.W.codeIn K cd17 "_law_more" = true) (k17 : PySem.W.keepIn K (.ref a__law_more) = true)
    (n18 : PySem.W.nsIn K mainGlobals "_law_told" = some (some (.ref a__law_told))) (l18 : K.lookup a__law_told = some ⟨oc18, od18, .func (PySem.W.fnOf "_law_told" "_law_told" (defArgs s__law_told) (defBody s__law_told) (defScope s__law_told) .none kV18 dc18 pm18 an18 cd18 ct18), sl18⟩) (c18 : PySem.W.codeIn K cd18 "_law_told" = true) (k18 : PySem.W.keepIn K (.ref a__law_told) = true)
    (n19 : PySem.W.nsIn K mainGlobals "_law_is_tree" = some (some (.ref a__law_is_tree))) (l19 : K.lookup a__law_is_tree = some ⟨oc19, od19, .func (PySem.W.fnOf "_law_is_tree" "_law_is_tree" (defArgs s__law_is_tree) (defBody s__law_is_tree) (defScope s__law_is_tree) .none kV19 dc19 pm19 an19 cd19 ct19), sl19⟩) (c19 : PySem.W.codeIn K cd19 "_law_is_tree" = true) (k19 : PySem.W.keepIn K (.ref a__law_is_tree) = true)
    (n20 : PySem.W.nsIn K mainGlobals "_law_knots" = some (some (.ref a__law_knots))) (l20 : K.lookup a__law_knots = some ⟨oc20, od20, .func (PySem.W.fnOf "_law_knots" "_law_knots" (defArgs s__law_knots) (defBody s__law_knots) (defScope s__law_knots) .none kV20 dc20 pm20 an20 cd20 ct20), sl20⟩) (c20 : PySem.W.codeIn K cd20 "_law_knots" = true) (k20 : PySem.W.keepIn K (.ref a__law_knots) = true)
    (n21 : PySem.W.nsIn K mainGlobals "_law_own" = some (some (.ref a__law_own))) (l21 : K.lookup a__law_own = some ⟨oc21, od21, .func (PySem.W.fnOf "_law_own" "_law_own" (defArgs s__law_own) (defBody s__law_own) (defScope s__law_own) .none kV21 dc21 pm21 an21 cd21 ct21), sl21⟩) (c21 : PySem.W.codeIn K cd21 "_law_own" = true) (k21 : PySem.W.keepIn K (.ref a__law_own) = true)
    (n22 : PySem.W.nsIn K mainGlobals "_law_spoilt" = some (some (.ref a__law_spoilt))) (l22 : K.lookup a__law_spoilt = some ⟨oc22, od22, .func (PySem.W.fnOf "_law_spoilt" "_law_spoilt" (defArgs s__law_spoilt) (defBody s__law_spoilt) (defScope s__law_spoilt) .none kV22 dc22 pm22 an22 cd22 ct22), sl22⟩) (c22 : PySem.W.codeIn K cd22 "_law_spoilt" = true) (k22 : PySem.W.keepIn K (.ref a__law_spoilt) = true)
    (n23 : PySem.W.nsIn K mainGlobals "_law_written" = some (some (.ref a__law_written))) (l23 : K.lookup a__law_written = some ⟨oc23, od23, .func (PySem.W.fnOf "_law_written" "_law_written" (defArgs s__law_written) (defBody s__law_written) (defScope s__law_written) .none kV23 dc23 pm23 an23 cd23 ct23), sl23⟩) (c23 : PySem.W.codeIn K cd23 "_law_written" = true) (k23 : PySem.W.keepIn K (.ref a__law_written) = true)
    (n24 : PySem.W.nsIn K mainGlobals "_law_value" = some (some (.ref a__law_value))) (l24 : K.lookup a__law_value = some ⟨oc24, od24, .func (PySem.W.fnOf "_law_value" "_law_value" (defArgs s__law_value) (defBody s__law_value) (defScope s__law_value) .none kV24 dc24 pm24 an24 cd24 ct24), sl24⟩) (c24 : PySem.W.codeIn K cd24 "_law_value" = true) (k24 : PySem.W.keepIn K (.ref a__law_value) = true)
    (n25 : PySem.W.nsIn K mainGlobals "_law_alike" = some (some (.ref a__law_alike))) (l25 : K.lookup a__law_alike = some ⟨oc25, od25, .func (PySem.W.fnOf "_law_alike" "_law_alike" (defArgs s__law_alike) (defBody s__law_alike) (defScope s__law_alike) .none kV25 dc25 pm25 an25 cd25 ct25), sl25⟩) (c25 : PySem.W.codeIn K cd25 "_law_alike" = true) (k25 : PySem.W.keepIn K (.ref a__law_alike) = true)
    (n26 : PySem.W.nsIn K mainGlobals "_law_great" = some (some (.ref a__law_great))) (l26 : K.lookup a__law_great = some ⟨oc26, od26, .func (PySem.W.fnOf "_law_great" "_law_great" (defArgs s__law_great) (defBody s__law_great) (defScope s__law_great) .none kV26 dc26 pm26 an26 cd26 ct26), sl26⟩) (c26 : PySem.W.codeIn K cd26 "_law_great" = true) (k26 : PySem.W.keepIn K (.ref a__law_great) = true)
    (n27 : PySem.W.nsIn K mainGlobals "_law_number_right" = some (some (.ref a__law_number_right))) (l27 : K.lookup a__law_number_right = some ⟨oc27, od27, .func (PySem.W.fnOf "_law_number_right" "_law_number_right" (defArgs s__law_number_right) (defBody s__law_number_right) (defScope s__law_number_right) .none kV27 dc27 pm27 an27 cd27 ct27), sl27⟩) (c27 : PySem.W.codeIn K cd27 "_law_number_right" = true) (k27 : PySem.W.keepIn K (.ref a__law_number_right) = true)
    (n28 : PySem.W.nsIn K mainGlobals "_law_tree_right" = some (some (.ref a__law_tree_right))) (l28 : K.lookup a__law_tree_right = some ⟨oc28, od28, .func (PySem.W.fnOf "_law_tree_right" "_law_tree_right" (defArgs s__law_tree_right) (defBody s__law_tree_right) (defScope s__law_tree_right) .none kV28 dc28 pm28 an28 cd28 ct28), sl28⟩) (c28 : PySem.W.codeIn K cd28 "_law_tree_right" = true) (k28 : PySem.W.keepIn K (.ref a__law_tree_right) = true)
    (n29 : PySem.W.nsIn K mainGlobals "law" = some (some (.ref a_law))) (l29 : K.lookup a_law = some ⟨oc29, od29, .func (PySem.W.fnOf "law" "law" (defArgs s_law) (defBody s_law) (defScope s_law) .none kV29 dc29 pm29 an29 cd29 ct29), sl29⟩) (c29 : PySem.W.codeIn K cd29 "law" = true) (k29 : PySem.W.keepIn K (.ref a_law) = true)
    (z_len : PySem.W.nsIn K mainGlobals "len" = some none)
    (z_list : PySem.W.nsIn K mainGlobals "list" = some none)
    (z_range : PySem.W.nsIn K mainGlobals "range" = some none)
    (z_zip : PySem.W.nsIn K mainGlobals "zip" = some none)
    (z_enumerate : PySem.W.nsIn K mainGlobals "enumerate" = some none)
    (z_min : PySem.W.nsIn K mainGlobals "min" = some none)
    (z_max : PySem.W.nsIn K mainGlobals "max" = some none)
    (z_sum : PySem.W.nsIn K mainGlobals "sum" = some none)
    (z_all : PySem.W.nsIn K mainGlobals "all" = some none)
    (z_any : PySem.W.nsIn K mainGlobals "any" = some none)
    (z_isinstance : PySem.W.nsIn K mainGlobals "isinstance" = some none)
    (z_int : PySem.W.nsIn K mainGlobals "int" = some none)
    (z_bool : PySem.W.nsIn K mainGlobals "bool" = some none)
    (c_MOST : PySem.W.nsIn K mainGlobals "MOST" = some (some (.int 300 t_MOST)))
    (c_DEEPEST : PySem.W.nsIn K mainGlobals "DEEPEST" = some (some (.int 40 t_DEEPEST)))
    (c_GREATEST : PySem.W.nsIn K mainGlobals "GREATEST" = some (some (.int 2582249878086908589655919172003011874329705792829223512830659356540647622016841194629645353280137831435903171972747493376 t_GREATEST)))
    (g_HeadError : PySem.W.nsIn K mainGlobals "HeadError" = some (some (.ref A_HeadError)))
    (kk_HeadError : PySem.W.keepIn K (.ref A_HeadError) = true)
    (x_HeadError : PySem.W.excIn K A_HeadError [.type "ValueError", .type "Exception", .type "BaseException", .type "object"] "ValueError.__new__" = true)
    (sb_HeadError : PySem.W.subIn K (.ref A_HeadError) (.type "BaseException") = some true)
    (tt_HeadError : PySem.W.typeIn K (.ref A_HeadError) = some (.type "type"))
    (g_BadTree : PySem.W.nsIn K mainGlobals "BadTree" = some (some (.ref A_BadTree)))
    (kk_BadTree : PySem.W.keepIn K (.ref A_BadTree) = true)
    (x_BadTree : PySem.W.excIn K A_BadTree [.type "ValueError", .type "Exception", .type "BaseException", .type "object"] "ValueError.__new__" = true)
    (sb_BadTree : PySem.W.subIn K (.ref A_BadTree) (.type "BaseException") = some true)
    (tt_BadTree : PySem.W.typeIn K (.ref A_BadTree) = some (.type "type"))
    (g_BadWay : PySem.W.nsIn K mainGlobals "BadWay" = some (some (.ref A_BadWay)))
    (kk_BadWay : PySem.W.keepIn K (.ref A_BadWay) = true)
    (x_BadWay : PySem.W.excIn K A_BadWay [.type "ValueError", .type "Exception", .type "BaseException", .type "object"] "ValueError.__new__" = true)
    (sb_BadWay : PySem.W.subIn K (.ref A_BadWay) (.type "BaseException") = some true)
    (tt_BadWay : PySem.W.typeIn K (.ref A_BadWay) = some (.type "type"))
    (g_BadTimes : PySem.W.nsIn K mainGlobals "BadTimes" = some (some (.ref A_BadTimes)))
    (kk_BadTimes : PySem.W.keepIn K (.ref A_BadTimes) = true)
    (x_BadTimes : PySem.W.excIn K A_BadTimes [.type "ValueError", .type "Exception", .type "BaseException", .type "object"] "ValueError.__new__" = true)
    (sb_BadTimes : PySem.W.subIn K (.ref A_BadTimes) (.type "BaseException") = some true)
    (tt_BadTimes : PySem.W.typeIn K (.ref A_BadTimes) = some (.type "type"))
    (g_BadNumber : PySem.W.nsIn K mainGlobals "BadNumber" = some (some (.ref A_BadNumber)))
    (kk_BadNumber : PySem.W.keepIn K (.ref A_BadNumber) = true)
    (x_BadNumber : PySem.W.excIn K A_BadNumber [.type "ValueError", .type "Exception", .type "BaseException", .type "object"] "ValueError.__new__" = true)
    (sb_BadNumber : PySem.W.subIn K (.ref A_BadNumber) (.type "BaseException") = some true)
    (tt_BadNumber : PySem.W.typeIn K (.ref A_BadNumber) = some (.type "type"))
    (g_BadBase : PySem.W.nsIn K mainGlobals "BadBase" = some (some (.ref A_BadBase)))
    (kk_BadBase : PySem.W.keepIn K (.ref A_BadBase) = true)
    (x_BadBase : PySem.W.excIn K A_BadBase [.type "ValueError", .type "Exception", .type "BaseException", .type "object"] "ValueError.__new__" = true)
    (sb_BadBase : PySem.W.subIn K (.ref A_BadBase) (.type "BaseException") = some true)
    (tt_BadBase : PySem.W.typeIn K (.ref A_BadBase) = some (.type "type"))
    (g_BadText : PySem.W.nsIn K mainGlobals "BadText" = some (some (.ref A_BadText)))
    (kk_BadText : PySem.W.keepIn K (.ref A_BadText) = true)
    (x_BadText : PySem.W.excIn K A_BadText [.type "ValueError", .type "Exception", .type "BaseException", .type "object"] "ValueError.__new__" = true)
    (sb_BadText : PySem.W.subIn K (.ref A_BadText) (.type "BaseException") = some true)
    (tt_BadText : PySem.W.typeIn K (.ref A_BadText) = some (.type "type"))
    (g_TooGreat : PySem.W.nsIn K mainGlobals "TooGreat" = some (some (.ref A_TooGreat)))
    (kk_TooGreat : PySem.W.keepIn K (.ref A_TooGreat) = true)
    (x_TooGreat : PySem.W.excIn K A_TooGreat [.type "ValueError", .type "Exception", .type "BaseException", .type "object"] "ValueError.__new__" = true)
    (sb_TooGreat : PySem.W.subIn K (.ref A_TooGreat) (.type "BaseException") = some true)
    (tt_TooGreat : PySem.W.typeIn K (.ref A_TooGreat) = some (.type "type"))
    (hd_HeadError : PySem.W.hasDictIn K A_HeadError = true)
    (e_hn : PySem.W.specialIn K (.builtin "object.__class__") "__get__" = some (some (.builtin "getset_descriptor.__get__")))
    (e_ht : PySem.W.takesIn K (.builtin "object.__class__") = some true)
    (e_hg_BadTree : PySem.W.findIn K (.ref A_BadTree) "__getattribute__" = some (some (.builtin "BaseException.__getattribute__")))
    (e_hk_BadTree : PySem.W.findIn K (.ref A_BadTree) "__getattr__" = some none)
    (e_hd_BadTree : PySem.W.hasDictIn K A_BadTree = true)
    (e_ha_BadTree : PySem.W.findIn K (.ref A_BadTree) "__class__" = some (some (.builtin "object.__class__")))
    (e_hm_BadTree : PySem.W.mroIn K A_BadTree (.type "object") = some true)
    (su_BadTree : PySem.W.subIn K (.ref A_BadTree) (.ref A_HeadError) = some true)
    (kt_BadTree_BadNumber : PySem.W.subIn K (.ref A_BadTree) (.ref A_BadNumber) = some false)
    (kt_BadTree_BadText : PySem.W.subIn K (.ref A_BadTree) (.ref A_BadText) = some false)
    (kt_BadTree_BadTimes : PySem.W.subIn K (.ref A_BadTree) (.ref A_BadTimes) = some false)
    (kt_BadTree_TooGreat : PySem.W.subIn K (.ref A_BadTree) (.ref A_TooGreat) = some false)
    (kt_BadTree_BadBase : PySem.W.subIn K (.ref A_BadTree) (.ref A_BadBase) = some false)
    (kt_BadTree_BadTree : PySem.W.subIn K (.ref A_BadTree) (.ref A_BadTree) = some true)
    (kt_BadTree_BadWay : PySem.W.subIn K (.ref A_BadTree) (.ref A_BadWay) = some false)
    (ks_BadTree : PySem.W.subIn K (.ref A_BadTree) (.ref A_BadTree) = some true)
    (e_hg_BadBase : PySem.W.findIn K (.ref A_BadBase) "__getattribute__" = some (some (.builtin "BaseException.__getattribute__")))
    (e_hk_BadBase : PySem.W.findIn K (.ref A_BadBase) "__getattr__" = some none)
    (e_hd_BadBase : PySem.W.hasDictIn K A_BadBase = true)
    (e_ha_BadBase : PySem.W.findIn K (.ref A_BadBase) "__class__" = some (some (.builtin "object.__class__")))
    (e_hm_BadBase : PySem.W.mroIn K A_BadBase (.type "object") = some true)
    (su_BadBase : PySem.W.subIn K (.ref A_BadBase) (.ref A_HeadError) = some true)
    (kt_BadBase_BadNumber : PySem.W.subIn K (.ref A_BadBase) (.ref A_BadNumber) = some false)
    (kt_BadBase_BadText : PySem.W.subIn K (.ref A_BadBase) (.ref A_BadText) = some false)
    (kt_BadBase_BadTimes : PySem.W.subIn K (.ref A_BadBase) (.ref A_BadTimes) = some false)
    (kt_BadBase_TooGreat : PySem.W.subIn K (.ref A_BadBase) (.ref A_TooGreat) = some false)
    (kt_BadBase_BadBase : PySem.W.subIn K (.ref A_BadBase) (.ref A_BadBase) = some true)
    (kt_BadBase_BadTree : PySem.W.subIn K (.ref A_BadBase) (.ref A_BadTree) = some false)
    (kt_BadBase_BadWay : PySem.W.subIn K (.ref A_BadBase) (.ref A_BadWay) = some false)
    (ks_BadBase : PySem.W.subIn K (.ref A_BadBase) (.ref A_BadBase) = some true)
    (e_hg_TooGreat : PySem.W.findIn K (.ref A_TooGreat) "__getattribute__" = some (some (.builtin "BaseException.__getattribute__")))
    (e_hk_TooGreat : PySem.W.findIn K (.ref A_TooGreat) "__getattr__" = some none)
    (e_hd_TooGreat : PySem.W.hasDictIn K A_TooGreat = true)
    (e_ha_TooGreat : PySem.W.findIn K (.ref A_TooGreat) "__class__" = some (some (.builtin "object.__class__")))
    (e_hm_TooGreat : PySem.W.mroIn K A_TooGreat (.type "object") = some true)
    (su_TooGreat : PySem.W.subIn K (.ref A_TooGreat) (.ref A_HeadError) = some true)
    (kt_TooGreat_BadNumber : PySem.W.subIn K (.ref A_TooGreat) (.ref A_BadNumber) = some false)
    (kt_TooGreat_BadText : PySem.W.subIn K (.ref A_TooGreat) (.ref A_BadText) = some false)
    (kt_TooGreat_BadTimes : PySem.W.subIn K (.ref A_TooGreat) (.ref A_BadTimes) = some false)
    (kt_TooGreat_TooGreat : PySem.W.subIn K (.ref A_TooGreat) (.ref A_TooGreat) = some true)
    (kt_TooGreat_BadBase : PySem.W.subIn K (.ref A_TooGreat) (.ref A_BadBase) = some false)
    (kt_TooGreat_BadTree : PySem.W.subIn K (.ref A_TooGreat) (.ref A_BadTree) = some false)
    (kt_TooGreat_BadWay : PySem.W.subIn K (.ref A_TooGreat) (.ref A_BadWay) = some false)
    (ks_TooGreat : PySem.W.subIn K (.ref A_TooGreat) (.ref A_TooGreat) = some true)
    (e_hg_BadNumber : PySem.W.findIn K (.ref A_BadNumber) "__getattribute__" = some (some (.builtin "BaseException.__getattribute__")))
    (e_hk_BadNumber : PySem.W.findIn K (.ref A_BadNumber) "__getattr__" = some none)
    (e_hd_BadNumber : PySem.W.hasDictIn K A_BadNumber = true)
    (e_ha_BadNumber : PySem.W.findIn K (.ref A_BadNumber) "__class__" = some (some (.builtin "object.__class__")))
    (e_hm_BadNumber : PySem.W.mroIn K A_BadNumber (.type "object") = some true)
    (su_BadNumber : PySem.W.subIn K (.ref A_BadNumber) (.ref A_HeadError) = some true)
    (kt_BadNumber_BadNumber : PySem.W.subIn K (.ref A_BadNumber) (.ref A_BadNumber) = some true)
    (kt_BadNumber_BadText : PySem.W.subIn K (.ref A_BadNumber) (.ref A_BadText) = some false)
    (kt_BadNumber_BadTimes : PySem.W.subIn K (.ref A_BadNumber) (.ref A_BadTimes) = some false)
    (kt_BadNumber_TooGreat : PySem.W.subIn K (.ref A_BadNumber) (.ref A_TooGreat) = some false)
    (kt_BadNumber_BadBase : PySem.W.subIn K (.ref A_BadNumber) (.ref A_BadBase) = some false)
    (kt_BadNumber_BadTree : PySem.W.subIn K (.ref A_BadNumber) (.ref A_BadTree) = some false)
    (kt_BadNumber_BadWay : PySem.W.subIn K (.ref A_BadNumber) (.ref A_BadWay) = some false)
    (ks_BadNumber : PySem.W.subIn K (.ref A_BadNumber) (.ref A_BadNumber) = some true)
    (ic_BadNumber : PySem.W.isClsIn K A_BadNumber = true)
    (ic_BadText : PySem.W.isClsIn K A_BadText = true)
    (ic_BadTimes : PySem.W.isClsIn K A_BadTimes = true)
    (ic_TooGreat : PySem.W.isClsIn K A_TooGreat = true)
    (ic_BadBase : PySem.W.isClsIn K A_BadBase = true)
    (ic_BadTree : PySem.W.isClsIn K A_BadTree = true)
    (ic_BadWay : PySem.W.isClsIn K A_BadWay = true) :
    ∃ fd : FuncData, (∀ (s : Shared) (v : Value), BindsTo s fd ⟨[v], []⟩ [("_law_script", v)]) ∧ ∀ base : Heap, K.In base → base.Ns mainGlobals mg → FnOk l.prog w K mg base CX0 47 fa fd ["_law_script"] (spLaw K) := by
  have e := hfa.symm.trans (PySem.W.mg_of X G n29)
  cases e
  have F0 := fun_mk (st := s_is_tree) l0 c0 k0
  have F1 := fun_mk (st := s_asked_tree) l1 c1 k1
  have F2 := fun_mk (st := s_compared) l2 c2 k2
  have F3 := fun_mk (st := s_merged) l3 c3 k3
  have F4 := fun_mk (st := s_copied) l4 c4 k4
  have F5 := fun_mk (st := s_told_of) l5 c5 k5
  have F6 := fun_mk (st := s_compare) l6 c6 k6
  have F7 := fun_mk (st := s_is_number) l7 c7 k7
  have F8 := fun_mk (st := s_asked_base) l8 c8 k8
  have F9 := fun_mk (st := s_written_of) l9 c9 k9
  have F10 := fun_mk (st := s_written) l10 c10 k10
  have F11 := fun_mk (st := s_can_write) l11 c11 k11
  have F12 := fun_mk (st := s_value_of) l12 c12 k12
  have F13 := fun_mk (st := s_number_of) l13 c13 k13
  have F14 := fun_mk (st := s_stepped) l14 c14 k14
  have F15 := fun_mk (st := s__law_number) l15 c15 k15
  have F16 := fun_mk (st := s__law_tree) l16 c16 k16
  have F17 := fun_mk (st := s__law_more) l17 c17 k17
  have F18 := fun_mk (st := s__law_told) l18 c18 k18
  have F19 := fun_mk (st := s__law_is_tree) l19 c19 k19
  have F20 := fun_mk (st := s__law_knots) l20 c20 k20
  have F21 := fun_mk (st := s__law_own) l21 c21 k21
  have F22 := fun_mk (st := s__law_spoilt) l22 c22 k22
  have F23 := fun_mk (st := s__law_written) l23 c23 k23
  have F24 := fun_mk (st := s__law_value) l24 c24 k24
  have F25 := fun_mk (st := s__law_alike) l25 c25 k25
  have F26 := fun_mk (st := s__law_great) l26 c26 k26
  have F27 := fun_mk (st := s__law_number_right) l27 c27 k27
  have F28 := fun_mk (st := s__law_tree_right) l28 c28 k28
  have F29 := fun_mk (st := s_law) l29 c29 k29
  let T : Txt K mg := {
    a_is_tree := a_is_tree, d_is_tree := _, F_is_tree := F0, b_is_tree := (F0.binds (ps := ["thing", "depth", "left"]) fun _ _ _ _ _ _ us hl => match us, hl with | [_, _, _], _ => rfl), m_is_tree := PySem.W.mg_of X G n0, k_is_tree := k0,
    a_asked_tree := a_asked_tree, d_asked_tree := _, F_asked_tree := F1, b_asked_tree := (F1.binds (ps := ["tree"]) fun _ _ _ _ _ _ us hl => match us, hl with | [_], _ => rfl), m_asked_tree := PySem.W.mg_of X G n1, k_asked_tree := k1,
    a_compared := a_compared, d_compared := _, F_compared := F2, b_compared := (F2.binds (ps := ["one", "other"]) fun _ _ _ _ _ _ us hl => match us, hl with | [_, _], _ => rfl), m_compared := PySem.W.mg_of X G n2, k_compared := k2,
    a_merged := a_merged, d_merged := _, F_merged := F3, b_merged := (F3.binds (ps := ["one", "other"]) fun _ _ _ _ _ _ us hl => match us, hl with | [_, _], _ => rfl), m_merged := PySem.W.mg_of X G n3, k_merged := k3,
    a_copied := a_copied, d_copied := _, F_copied := F4, b_copied := (F4.binds (ps := ["tree"]) fun _ _ _ _ _ _ us hl => match us, hl with | [_], _ => rfl), m_copied := PySem.W.mg_of X G n4, k_copied := k4,
    a_told_of := a_told_of, d_told_of := _, F_told_of := F5, b_told_of := (F5.binds (ps := ["tree"]) fun _ _ _ _ _ _ us hl => match us, hl with | [_], _ => rfl), m_told_of := PySem.W.mg_of X G n5, k_told_of := k5,
    a_compare := a_compare, d_compare := _, F_compare := F6, b_compare := (F6.binds (ps := ["one", "other"]) fun _ _ _ _ _ _ us hl => match us, hl with | [_, _], _ => rfl), m_compare := PySem.W.mg_of X G n6, k_compare := k6,
    a_is_number := a_is_number, d_is_number := _, F_is_number := F7, b_is_number := (F7.binds (ps := ["thing"]) fun _ _ _ _ _ _ us hl => match us, hl with | [_], _ => rfl), m_is_number := PySem.W.mg_of X G n7, k_is_number := k7,
    a_asked_base := a_asked_base, d_asked_base := _, F_asked_base := F8, b_asked_base := (F8.binds (ps := ["base"]) fun _ _ _ _ _ _ us hl => match us, hl with | [_], _ => rfl), m_asked_base := PySem.W.mg_of X G n8, k_asked_base := k8,
    a_written_of := a_written_of, d_written_of := _, F_written_of := F9, b_written_of := (F9.binds (ps := ["number", "base", "left"]) fun _ _ _ _ _ _ us hl => match us, hl with | [_, _, _], _ => rfl), m_written_of := PySem.W.mg_of X G n9, k_written_of := k9,
    a_written := a_written, d_written := _, F_written := F10, b_written := (F10.binds (ps := ["number", "base"]) fun _ _ _ _ _ _ us hl => match us, hl with | [_, _], _ => rfl), m_written := PySem.W.mg_of X G n10, k_written := k10,
    a_can_write := a_can_write, d_can_write := _, F_can_write := F11, b_can_write := (F11.binds (ps := ["tree", "base"]) fun _ _ _ _ _ _ us hl => match us, hl with | [_, _], _ => rfl), m_can_write := PySem.W.mg_of X G n11, k_can_write := k11,
    a_value_of := a_value_of, d_value_of := _, F_value_of := F12, b_value_of := (F12.binds (ps := ["tree", "base"]) fun _ _ _ _ _ _ us hl => match us, hl with | [_, _], _ => rfl), m_value_of := PySem.W.mg_of X G n12, k_value_of := k12,
    a_number_of := a_number_of, d_number_of := _, F_number_of := F13, b_number_of := (F13.binds (ps := ["tree", "base"]) fun _ _ _ _ _ _ us hl => match us, hl with | [_, _], _ => rfl), m_number_of := PySem.W.mg_of X G n13, k_number_of := k13,
    a_stepped := a_stepped, d_stepped := _, F_stepped := F14, b_stepped := (F14.binds (ps := ["number", "base"]) fun _ _ _ _ _ _ us hl => match us, hl with | [_, _], _ => rfl), m_stepped := PySem.W.mg_of X G n14, k_stepped := k14,
    a__law_number := a__law_number, d__law_number := _, F__law_number := F15, b__law_number := (F15.binds (ps := ["_law_cell", "_law_at", "_law_whole"]) fun _ _ _ _ _ _ us hl => match us, hl with | [_, _, _], _ => rfl), m__law_number := PySem.W.mg_of X G n15, k__law_number := k15,
    a__law_tree := a__law_tree, d__law_tree := _, F__law_tree := F16, b__law_tree := (F16.binds (ps := ["_law_script", "_law_most", "_law_by"]) fun _ _ _ _ _ _ us hl => match us, hl with | [_, _, _], _ => rfl), m__law_tree := PySem.W.mg_of X G n16, k__law_tree := k16,
    a__law_more := a__law_more, d__law_more := _, F__law_more := F17, b__law_more := (F17.binds (ps := ["_law_one", "_law_other"]) fun _ _ _ _ _ _ us hl => match us, hl with | [_, _], _ => rfl), m__law_more := PySem.W.mg_of X G n17, k__law_more := k17,
    a__law_told := a__law_told, d__law_told := _, F__law_told := F18, b__law_told := (F18.binds (ps := ["_law_tree_here"]) fun _ _ _ _ _ _ us hl => match us, hl with | [_], _ => rfl), m__law_told := PySem.W.mg_of X G n18, k__law_told := k18,
    a__law_is_tree := a__law_is_tree, d__law_is_tree := _, F__law_is_tree := F19, b__law_is_tree := (F19.binds (ps := ["_law_found"]) fun _ _ _ _ _ _ us hl => match us, hl with | [_], _ => rfl), m__law_is_tree := PySem.W.mg_of X G n19, k__law_is_tree := k19,
    a__law_knots := a__law_knots, d__law_knots := _, F__law_knots := F20, b__law_knots := (F20.binds (ps := ["_law_tree_here"]) fun _ _ _ _ _ _ us hl => match us, hl with | [_], _ => rfl), m__law_knots := PySem.W.mg_of X G n20, k__law_knots := k20,
    a__law_own := a__law_own, d__law_own := _, F__law_own := F21, b__law_own := (F21.binds (ps := ["_law_tree_here", "_law_own_here"]) fun _ _ _ _ _ _ us hl => match us, hl with | [_, _], _ => rfl), m__law_own := PySem.W.mg_of X G n21, k__law_own := k21,
    a__law_spoilt := a__law_spoilt, d__law_spoilt := _, F__law_spoilt := F22, b__law_spoilt := (F22.binds (ps := ["_law_tree_here"]) fun _ _ _ _ _ _ us hl => match us, hl with | [_], _ => rfl), m__law_spoilt := PySem.W.mg_of X G n22, k__law_spoilt := k22,
    a__law_written := a__law_written, d__law_written := _, F__law_written := F23, b__law_written := (F23.binds (ps := ["_law_number_here", "_law_base"]) fun _ _ _ _ _ _ us hl => match us, hl with | [_, _], _ => rfl), m__law_written := PySem.W.mg_of X G n23, k__law_written := k23,
    a__law_value := a__law_value, d__law_value := _, F__law_value := F24, b__law_value := (F24.binds (ps := ["_law_tree_here", "_law_base"]) fun _ _ _ _ _ _ us hl => match us, hl with | [_, _], _ => rfl), m__law_value := PySem.W.mg_of X G n24, k__law_value := k24,
    a__law_alike := a__law_alike, d__law_alike := _, F__law_alike := F25, b__law_alike := (F25.binds (ps := ["_law_tree_here"]) fun _ _ _ _ _ _ us hl => match us, hl with | [_], _ => rfl), m__law_alike := PySem.W.mg_of X G n25, k__law_alike := k25,
    a__law_great := a__law_great, d__law_great := _, F__law_great := F26, b__law_great := (F26.binds (ps := ["_law_ask", "_law_one", "_law_base"]) fun _ _ _ _ _ _ us hl => match us, hl with | [_, _, _], _ => rfl), m__law_great := PySem.W.mg_of X G n26, k__law_great := k26,
    a__law_number_right := a__law_number_right, d__law_number_right := _, F__law_number_right := F27, b__law_number_right := (F27.binds (ps := ["_law_number_here", "_law_base"]) fun _ _ _ _ _ _ us hl => match us, hl with | [_, _], _ => rfl), m__law_number_right := PySem.W.mg_of X G n27, k__law_number_right := k27,
    a__law_tree_right := a__law_tree_right, d__law_tree_right := _, F__law_tree_right := F28, b__law_tree_right := (F28.binds (ps := ["_law_tree_here", "_law_base"]) fun _ _ _ _ _ _ us hl => match us, hl with | [_, _], _ => rfl), m__law_tree_right := PySem.W.mg_of X G n28, k__law_tree_right := k28,
    a_law := fa, d_law := _, F_law := F29, b_law := (F29.binds (ps := ["_law_script"]) fun _ _ _ _ _ _ us hl => match us, hl with | [_], _ => rfl), m_law := PySem.W.mg_of X G n29, k_law := k29,
    z_len := PySem.W.mg_none_of X G z_len,
    z_list := PySem.W.mg_none_of X G z_list,
    z_range := PySem.W.mg_none_of X G z_range,
    z_zip := PySem.W.mg_none_of X G z_zip,
    z_enumerate := PySem.W.mg_none_of X G z_enumerate,
    z_min := PySem.W.mg_none_of X G z_min,
    z_max := PySem.W.mg_none_of X G z_max,
    z_sum := PySem.W.mg_none_of X G z_sum,
    z_all := PySem.W.mg_none_of X G z_all,
    z_any := PySem.W.mg_none_of X G z_any,
    z_isinstance := PySem.W.mg_none_of X G z_isinstance,
    z_int := PySem.W.mg_none_of X G z_int,
    z_bool := PySem.W.mg_none_of X G z_bool,
    t_MOST := t_MOST, c_MOST := PySem.W.mg_of X G c_MOST,
    t_DEEPEST := t_DEEPEST, c_DEEPEST := PySem.W.mg_of X G c_DEEPEST,
    t_GREATEST := t_GREATEST, c_GREATEST := PySem.W.mg_of X G c_GREATEST,
    A_HeadError := A_HeadError, g_HeadError := PySem.W.mg_of X G g_HeadError, k_HeadError := kk_HeadError, x_HeadError := x_HeadError, sb_HeadError := sb_HeadError, tt_HeadError := tt_HeadError,
    A_BadTree := A_BadTree, g_BadTree := PySem.W.mg_of X G g_BadTree, k_BadTree := kk_BadTree, x_BadTree := x_BadTree, sb_BadTree := sb_BadTree, tt_BadTree := tt_BadTree,
    A_BadWay := A_BadWay, g_BadWay := PySem.W.mg_of X G g_BadWay, k_BadWay := kk_BadWay, x_BadWay := x_BadWay, sb_BadWay := sb_BadWay, tt_BadWay := tt_BadWay,
    A_BadTimes := A_BadTimes, g_BadTimes := PySem.W.mg_of X G g_BadTimes, k_BadTimes := kk_BadTimes, x_BadTimes := x_BadTimes, sb_BadTimes := sb_BadTimes, tt_BadTimes := tt_BadTimes,
    A_BadNumber := A_BadNumber, g_BadNumber := PySem.W.mg_of X G g_BadNumber, k_BadNumber := kk_BadNumber, x_BadNumber := x_BadNumber, sb_BadNumber := sb_BadNumber, tt_BadNumber := tt_BadNumber,
    A_BadBase := A_BadBase, g_BadBase := PySem.W.mg_of X G g_BadBase, k_BadBase := kk_BadBase, x_BadBase := x_BadBase, sb_BadBase := sb_BadBase, tt_BadBase := tt_BadBase,
    A_BadText := A_BadText, g_BadText := PySem.W.mg_of X G g_BadText, k_BadText := kk_BadText, x_BadText := x_BadText, sb_BadText := sb_BadText, tt_BadText := tt_BadText,
    A_TooGreat := A_TooGreat, g_TooGreat := PySem.W.mg_of X G g_TooGreat, k_TooGreat := kk_TooGreat, x_TooGreat := x_TooGreat, sb_TooGreat := sb_TooGreat, tt_TooGreat := tt_TooGreat,
    hd_HeadError := hd_HeadError,
    ex_BadTree := ⟨e_hg_BadTree, e_hk_BadTree, sb_BadTree, e_hd_BadTree, e_ha_BadTree, e_hn, e_ht, e_hm_BadTree⟩, su_BadTree := su_BadTree,
    kt_BadTree_BadNumber := kit_mk ic_BadNumber tt_BadNumber kt_BadTree_BadNumber ks_BadTree,
    kt_BadTree_BadText := kit_mk ic_BadText tt_BadText kt_BadTree_BadText ks_BadTree,
    kt_BadTree_BadTimes := kit_mk ic_BadTimes tt_BadTimes kt_BadTree_BadTimes ks_BadTree,
    kt_BadTree_TooGreat := kit_mk ic_TooGreat tt_TooGreat kt_BadTree_TooGreat ks_BadTree,
    kt_BadTree_BadBase := kit_mk ic_BadBase tt_BadBase kt_BadTree_BadBase ks_BadTree,
    kt_BadTree_BadTree := kit_mk ic_BadTree tt_BadTree kt_BadTree_BadTree ks_BadTree,
    kt_BadTree_BadWay := kit_mk ic_BadWay tt_BadWay kt_BadTree_BadWay ks_BadTree,
    ex_BadBase := ⟨e_hg_BadBase, e_hk_BadBase, sb_BadBase, e_hd_BadBase, e_ha_BadBase, e_hn, e_ht, e_hm_BadBase⟩, su_BadBase := su_BadBase,
    kt_BadBase_BadNumber := kit_mk ic_BadNumber tt_BadNumber kt_BadBase_BadNumber ks_BadBase,
    kt_BadBase_BadText := kit_mk ic_BadText tt_BadText kt_BadBase_BadText ks_BadBase,
    kt_BadBase_BadTimes := kit_mk ic_BadTimes tt_BadTimes kt_BadBase_BadTimes ks_BadBase,
    kt_BadBase_TooGreat := kit_mk ic_TooGreat tt_TooGreat kt_BadBase_TooGreat ks_BadBase,
    kt_BadBase_BadBase := kit_mk ic_BadBase tt_BadBase kt_BadBase_BadBase ks_BadBase,
    kt_BadBase_BadTree := kit_mk ic_BadTree tt_BadTree kt_BadBase_BadTree ks_BadBase,
    kt_BadBase_BadWay := kit_mk ic_BadWay tt_BadWay kt_BadBase_BadWay ks_BadBase,
    ex_TooGreat := ⟨e_hg_TooGreat, e_hk_TooGreat, sb_TooGreat, e_hd_TooGreat, e_ha_TooGreat, e_hn, e_ht, e_hm_TooGreat⟩, su_TooGreat := su_TooGreat,
    kt_TooGreat_BadNumber := kit_mk ic_BadNumber tt_BadNumber kt_TooGreat_BadNumber ks_TooGreat,
    kt_TooGreat_BadText := kit_mk ic_BadText tt_BadText kt_TooGreat_BadText ks_TooGreat,
    kt_TooGreat_BadTimes := kit_mk ic_BadTimes tt_BadTimes kt_TooGreat_BadTimes ks_TooGreat,
    kt_TooGreat_TooGreat := kit_mk ic_TooGreat tt_TooGreat kt_TooGreat_TooGreat ks_TooGreat,
    kt_TooGreat_BadBase := kit_mk ic_BadBase tt_BadBase kt_TooGreat_BadBase ks_TooGreat,
    kt_TooGreat_BadTree := kit_mk ic_BadTree tt_BadTree kt_TooGreat_BadTree ks_TooGreat,
    kt_TooGreat_BadWay := kit_mk ic_BadWay tt_BadWay kt_TooGreat_BadWay ks_TooGreat,
    ex_BadNumber := ⟨e_hg_BadNumber, e_hk_BadNumber, sb_BadNumber, e_hd_BadNumber, e_ha_BadNumber, e_hn, e_ht, e_hm_BadNumber⟩, su_BadNumber := su_BadNumber,
    kt_BadNumber_BadNumber := kit_mk ic_BadNumber tt_BadNumber kt_BadNumber_BadNumber ks_BadNumber,
    kt_BadNumber_BadText := kit_mk ic_BadText tt_BadText kt_BadNumber_BadText ks_BadNumber,
    kt_BadNumber_BadTimes := kit_mk ic_BadTimes tt_BadTimes kt_BadNumber_BadTimes ks_BadNumber,
    kt_BadNumber_TooGreat := kit_mk ic_TooGreat tt_TooGreat kt_BadNumber_TooGreat ks_BadNumber,
    kt_BadNumber_BadBase := kit_mk ic_BadBase tt_BadBase kt_BadNumber_BadBase ks_BadNumber,
    kt_BadNumber_BadTree := kit_mk ic_BadTree tt_BadTree kt_BadNumber_BadTree ks_BadNumber,
    kt_BadNumber_BadWay := kit_mk ic_BadWay tt_BadWay kt_BadNumber_BadWay ks_BadNumber }
  exact ⟨PySem.W.fnOf "law" "law" (defArgs s_law) (defBody s_law) (defScope s_law) .none kV29 dc29 pm29 an29 cd29 ct29, fun s v => .of_eq rfl, fun base _ _ => ok_law T⟩
theorem walk {l : PySem.W.OpenLaw} {q : Program} {loose : List Str} {XP : (Str → Option Value) → Heap → Prop} {YP : World → Heap → Prop} {d : DefRec} {K : Params → PySem.W.Frag} (hn : l.most = some 63) (hdf : d.params.defaults = [])
    (hY : ∀ (w : World) (h : Heap), YP w h → (K w.params).In h)
    (F : ∀ (w : World) (mg : Str → Option Value) (fa : Addr) (h : Heap), (K w.params).In h → h.Ns mainGlobals mg → mg d.name = some (.ref fa) →
      ∃ fd : FuncData, (∀ (s : Shared) (u : Value), BindsTo s fd ⟨[u], []⟩ [("_law_script", u)]) ∧ ∀ base : Heap, (K w.params).In base → base.Ns mainGlobals mg → FnOk l.prog w (K w.params) mg base CX0 47 fa fd ["_law_script"] (spLaw (K w.params))) :
    PySem.W.WalkO q loose XP YP l.row.toRowW d [] (fun f vs => PySem.call f vs) :=
  L2.walk_ofB (n := 63) (k := 47) (x := "_law_script") (CX := fun _ => CX0) (sp := fun w => spLaw (K w.params)) hn (by decide) hdf ⟨rfl, by decide, by decide⟩ hY F (fun _ _ a ns hl hb _ hS => ⟨a, ns, rfl, hS, hl, fun n hn => (Bits.of_bits (hb n hn)).mono (by decide), fun _ => rfl⟩) fun _ _ _ _ _ z => z
end Hg
open PySem PySem.W PyProof.Rows
set_option maxRecDepth 100000 in
set_option maxHeartbeats 0 in
theorem PySem.Challenge.cw_headsgrow_k03_whole_bases_holds : PySem.Challenge.rw_headsgrow_k03_whole_bases.Holds := by
  w_on; o_law; k_head; (case hw => w_witness2)
  k_fill
  refine Hg.walk (l := PySem.Challenge.rw_headsgrow_k03_whole_bases) rfl rfl (fun w h Y => PySem.W.kIn_of Y) ?F
  case F =>
    intro w mg fa h KX G hmg
    refine' Hg.all_mk KX G hmg ?n0 ?l0 ?c0 ?k0 ?n1 ?l1 ?c1 ?k1 ?n2 ?l2 ?c2 ?k2 ?n3 ?l3 ?c3 ?k3 ?n4 ?l4 ?c4 ?k4 ?n5 ?l5 ?c5 ?k5 ?n6 ?l6 ?c6 ?k6 ?n7 ?l7 ?c7 ?k7 ?n8 ?l8 ?c8 ?k8 ?n9 ?l9 ?c9 ?k9 ?n10 ?l10 ?c10 ?k10 ?n11 ?l11 ?c11 ?k11 ?n12 ?l12 ?c12 ?k12 ?n13 ?l13 ?c13 ?k13 ?n14 ?l14 ?c14 ?k14 ?n15 ?l15 ?c15 ?k15 ?n16 ?l16 ?c16 ?k16 ?n17 ?l17 ?c17 ?k17 ?n18 ?l18 ?c18 ?k18 ?n19 ?l19 ?c19 ?k19 ?n20 ?l20 ?c20 ?k20 ?n21 ?l21 ?c21 ?k21 ?n22 ?l22 ?c22 ?k22 ?n23 ?l23 ?c23 ?k23 ?n24 ?l24 ?c24 ?k24 ?n25 ?l25 ?c25 ?k25 ?n26 ?l26 ?c26 ?k26 ?n27 ?l27 ?c27 ?k27 ?n28 ?l28 ?c28 ?k28 ?n29 ?l29 ?c29 ?k29 ?z_len ?z_list ?z_range ?z_zip ?z_enumerate ?z_min ?z_max ?z_sum ?z_all ?z_any ?z_isinstance ?z_int ?z_bool ?c_MOST ?c_DEEPEST ?c_GREATEST ?g_HeadError ?kk_HeadError ?x_HeadError ?sb_HeadError ?tt_HeadError ?g_BadTree ?kk_BadTree ?x_BadTree ?sb_BadTree ?tt_BadTree ?g_BadWay ?kk_BadWay ?x_BadWay ?sb_BadWay ?tt_BadWay ?g_BadTimes ?kk_BadTimes ?x_BadTimes ?sb_BadTimes ?tt_BadTimes ?g_BadNumber ?kk_BadNumber ?x_BadNumber ?sb_BadNumber ?tt_BadNumber ?g_BadBase ?kk_BadBase ?x_BadBase ?sb_BadBase ?tt_BadBase ?g_BadText ?kk_BadText ?x_BadText ?sb_BadText ?tt_BadText ?g_TooGreat ?kk_TooGreat ?x_TooGreat ?sb_TooGreat ?tt_TooGreat ?hd_HeadError ?e_hn ?e_ht ?e_hg_BadTree ?e_hk_BadTree ?e_hd_BadTree ?e_ha_BadTree ?e_hm_BadTree ?su_BadTree ?kt_BadTree_BadNumber ?kt_BadTree_BadText ?kt_BadTree_BadTimes ?kt_BadTree_TooGreat ?kt_BadTree_BadBase ?kt_BadTree_BadTree ?kt_BadTree_BadWay ?ks_BadTree ?e_hg_BadBase ?e_hk_BadBase ?e_hd_BadBase ?e_ha_BadBase ?e_hm_BadBase ?su_BadBase ?kt_BadBase_BadNumber ?kt_BadBase_BadText ?kt_BadBase_BadTimes ?kt_BadBase_TooGreat ?kt_BadBase_BadBase ?kt_BadBase_BadTree ?kt_BadBase_BadWay ?ks_BadBase ?e_hg_TooGreat ?e_hk_TooGreat ?e_hd_TooGreat ?e_ha_TooGreat ?e_hm_TooGreat ?su_TooGreat ?kt_TooGreat_BadNumber ?kt_TooGreat_BadText ?kt_TooGreat_BadTimes ?kt_TooGreat_TooGreat ?kt_TooGreat_BadBase ?kt_TooGreat_BadTree ?kt_TooGreat_BadWay ?ks_TooGreat ?e_hg_BadNumber ?e_hk_BadNumber ?e_hd_BadNumber ?e_ha_BadNumber ?e_hm_BadNumber ?su_BadNumber ?kt_BadNumber_BadNumber ?kt_BadNumber_BadText ?kt_BadNumber_BadTimes ?kt_BadNumber_TooGreat ?kt_BadNumber_BadBase ?kt_BadNumber_BadTree ?kt_BadNumber_BadWay ?ks_BadNumber ?ic_BadNumber ?ic_BadText ?ic_BadTimes ?ic_TooGreat ?ic_BadBase ?ic_BadTree ?ic_BadWay
    (case n0 => k_is)
    (case l0 => k_is)
    (case c0 => k_is)
    (case k0 => k_is)
    (case n1 => k_is)
    (case l1 => k_is)
    (case c1 => k_is)
    (case k1 => k_is)
    (case n2 => k_is)
    (case l2 => k_is)
    (case c2 => k_is)
    (case k2 => k_is)
    (case n3 => k_is)
    (case l3 => k_is)
    (case c3 => k_is)
    (case k3 => k_is)
    (case n4 => k_is)
    (case l4 => k_is)
    (case c4 => k_is)
    (case k4 => k_is)
    (case n5 => k_is)
    (case l5 => k_is)
    (case c5 => k_is)
    (case k5 => k_is)
    (case n6 => k_is)
    (case l6 => k_is)
    (case c6 => k_is)
    (case k6 => k_is)
    (case n7 => k_is)
    (case l7 => k_is)
    (case c7 => k_is)
    (case k7 => k_is)
    (case n8 => k_is)
    (case l8 => k_is)
    (case c8 => k_is)
    (case k8 => k_is)
    (case n9 => k_is)
    (case l9 => k_is)
    (case c9 => k_is)
    (case k9 => k_is)
    (case n10 => k_is)
    (case l10 => k_is)
    (case c10 => k_is)
    (case k10 => k_is)
    (case n11 => k_is)
    (case l11 => k_is)
    (case c11 => k_is)
    (case k11 => k_is)
    (case n12 => k_is)
    (case l12 => k_is)
    (case c12 => k_is)
    (case k12 => k_is)
    (case n13 => k_is)
    (case l13 => k_is)
    (case c13 => k_is)
    (case k13 => k_is)
    (case n14 => k_is)
    (case l14 => k_is)
    (case c14 => k_is)
    (case k14 => k_is)
    (case n15 => k_is)
    (case l15 => k_is)
    (case c15 => k_is)
    (case k15 => k_is)
    (case n16 => k_is)
    (case l16 => k_is)
    (case c16 => k_is)
    (case k16 => k_is)
    (case n17 => k_is)
    (case l17 => k_is)
    (case c17 => k_is)
    (case k17 => k_is)
    (case n18 => k_is)
    (case l18 => k_is)
    (case c18 => k_is)
    (case k18 => k_is)
    (case n19 => k_is)
    (case l19 => k_is)
    (case c19 => k_is)
    (case k19 => k_is)
    (case n20 => k_is)
    (case l20 => k_is)
    (case c20 => k_is)
    (case k20 => k_is)
    (case n21 => k_is)
    (case l21 => k_is)
    (case c21 => k_is)
    (case k21 => k_is)
    (case n22 => k_is)
    (case l22 => k_is)
    (case c22 => k_is)
    (case k22 => k_is)
    (case n23 => k_is)
    (case l23 => k_is)
    (case c23 => k_is)
    (case k23 => k_is)
    (case n24 => k_is)
    (case l24 => k_is)
    (case c24 => k_is)
    (case k24 => k_is)
    (case n25 => k_is)
    (case l25 => k_is)
    (case c25 => k_is)
    (case k25 => k_is)
    (case n26 => k_is)
    (case l26 => k_is)
    (case c26 => k_is)
    (case k26 => k_is)
    (case n27 => k_is)
    (case l27 => k_is)
    (case c27 => k_is)
    (case k27 => k_is)
    (case n28 => k_is)
    (case l28 => k_is)
    (case c28 => k_is)
    (case k28 => k_is)
    (case n29 => k_is)
    (case l29 => k_is)
    (case c29 => k_is)
    (case k29 => k_is)
    (case z_len => k_is)
    (case z_list => k_is)
    (case z_range => k_is)
    (case z_zip => k_is)
    (case z_enumerate => k_is)
    (case z_min => k_is)
    (case z_max => k_is)
    (case z_sum => k_is)
    (case z_all => k_is)
    (case z_any => k_is)
    (case z_isinstance => k_is)
    (case z_int => k_is)
    (case z_bool => k_is)
    (case c_MOST => k_is)
    (case c_DEEPEST => k_is)
    (case c_GREATEST => k_is)
    (case g_HeadError => k_is)
    (case kk_HeadError => k_is)
    (case x_HeadError => k_exc)
    (case sb_HeadError => k_is)
    (case tt_HeadError => k_is)
    (case g_BadTree => k_is)
    (case kk_BadTree => k_is)
    (case x_BadTree => k_exc)
    (case sb_BadTree => k_is)
    (case tt_BadTree => k_is)
    (case g_BadWay => k_is)
    (case kk_BadWay => k_is)
    (case x_BadWay => k_exc)
    (case sb_BadWay => k_is)
    (case tt_BadWay => k_is)
    (case g_BadTimes => k_is)
    (case kk_BadTimes => k_is)
    (case x_BadTimes => k_exc)
    (case sb_BadTimes => k_is)
    (case tt_BadTimes => k_is)
    (case g_BadNumber => k_is)
    (case kk_BadNumber => k_is)
    (case x_BadNumber => k_exc)
    (case sb_BadNumber => k_is)
    (case tt_BadNumber => k_is)
    (case g_BadBase => k_is)
    (case kk_BadBase => k_is)
    (case x_BadBase => k_exc)
    (case sb_BadBase => k_is)
    (case tt_BadBase => k_is)
    (case g_BadText => k_is)
    (case kk_BadText => k_is)
    (case x_BadText => k_exc)
    (case sb_BadText => k_is)
    (case tt_BadText => k_is)
    (case g_TooGreat => k_is)
    (case kk_TooGreat => k_is)
    (case x_TooGreat => k_exc)
    (case sb_TooGreat => k_is)
    (case tt_TooGreat => k_is)
    (case hd_HeadError => k_is)
    (case e_hn => k_is)
    (case e_ht => k_is)
    (case e_hg_BadTree => k_is)
    (case e_hk_BadTree => k_is)
    (case e_hd_BadTree => k_is)
    (case e_ha_BadTree => k_is)
    (case e_hm_BadTree => k_is)
    (case su_BadTree => k_is)
    (case kt_BadTree_BadNumber => k_is)
    (case kt_BadTree_BadText => k_is)
    (case kt_BadTree_BadTimes => k_is)
    (case kt_BadTree_TooGreat => k_is)
    (case kt_BadTree_BadBase => k_is)
    (case kt_BadTree_BadTree => k_is)
    (case kt_BadTree_BadWay => k_is)
    (case ks_BadTree => k_is)
    (case e_hg_BadBase => k_is)
    (case e_hk_BadBase => k_is)
    (case e_hd_BadBase => k_is)
    (case e_ha_BadBase => k_is)
    (case e_hm_BadBase => k_is)
    (case su_BadBase => k_is)
    (case kt_BadBase_BadNumber => k_is)
    (case kt_BadBase_BadText => k_is)
    (case kt_BadBase_BadTimes => k_is)
    (case kt_BadBase_TooGreat => k_is)
    (case kt_BadBase_BadBase => k_is)
    (case kt_BadBase_BadTree => k_is)
    (case kt_BadBase_BadWay => k_is)
    (case ks_BadBase => k_is)
    (case e_hg_TooGreat => k_is)
    (case e_hk_TooGreat => k_is)
    (case e_hd_TooGreat => k_is)
    (case e_ha_TooGreat => k_is)
    (case e_hm_TooGreat => k_is)
    (case su_TooGreat => k_is)
    (case kt_TooGreat_BadNumber => k_is)
    (case kt_TooGreat_BadText => k_is)
    (case kt_TooGreat_BadTimes => k_is)
    (case kt_TooGreat_TooGreat => k_is)
    (case kt_TooGreat_BadBase => k_is)
    (case kt_TooGreat_BadTree => k_is)
    (case kt_TooGreat_BadWay => k_is)
    (case ks_TooGreat => k_is)
    (case e_hg_BadNumber => k_is)
    (case e_hk_BadNumber => k_is)
    (case e_hd_BadNumber => k_is)
    (case e_ha_BadNumber => k_is)
    (case e_hm_BadNumber => k_is)
    (case su_BadNumber => k_is)
    (case kt_BadNumber_BadNumber => k_is)
    (case kt_BadNumber_BadText => k_is)
    (case kt_BadNumber_BadTimes => k_is)
    (case kt_BadNumber_TooGreat => k_is)
    (case kt_BadNumber_BadBase => k_is)
    (case kt_BadNumber_BadTree => k_is)
    (case kt_BadNumber_BadWay => k_is)
    (case ks_BadNumber => k_is)
    (case ic_BadNumber => k_is)
    (case ic_BadText => k_is)
    (case ic_BadTimes => k_is)
    (case ic_TooGreat => k_is)
    (case ic_BadBase => k_is)
    (case ic_BadTree => k_is)
    (case ic_BadWay => k_is)
#print axioms PySem.Challenge.cw_headsgrow_k03_whole_bases_holds
