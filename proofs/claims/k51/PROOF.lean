import PyProof.Rows.All
import Wide.All
import OpenK.AllK
import Wide.FinOn
import HandS.ForMost
import HandS.Defaults
import HandS.TupAny
import HandS.Wide
import HandS.IsInst
import HandS.StrMore
import HandS.Style
import HandS.Walk
import KE.KDictKeyed
import KE.KeyNested
import KE.GoesEnum
import KE.GoesZip
import KE.GoesMore
import KE.KDictZip
import HandS.Evl
import PySem.Challenge.RW_foldbough_k51_whole_numbers_of_great_fol
set_option Elab.async false
set_option linter.all false
/-! The mathematics of rows: products of row lists in order, counts of rows below a bound. -/
namespace Fb
abbrev Rows := List (List Int)
/-! ### the order of rows -/
def lx : List Int → List Int → Bool
  | x :: xs, y :: ys => decide (x < y) || (decide (x = y) && lx xs ys)
  | [], _ :: _ => true
  | _, [] => false
theorem lx_irr : ∀ a : List Int, lx a a = false
  | [] => rfl
  | x :: xs => by simp [lx, lx_irr xs]
theorem lx_cons {x y : Int} {a b : List Int} : lx (x :: a) (y :: b) = true ↔ x < y ∨ (x = y ∧ lx a b = true) := by
  simp [lx]
theorem lx_trans : ∀ {a b c : List Int}, lx a b = true → lx b c = true → lx a c = true
  | [], [], _, h, _ => by simp [lx] at h
  | [], _ :: _, [], _, h => by simp [lx] at h
  | [], _ :: _, _ :: _, _, _ => rfl
  | _ :: _, [], _, h, _ => by simp [lx] at h
  | _ :: _, _ :: _, [], _, h => by simp [lx] at h
  | x :: a, y :: b, z :: c, h, k => by
    rw [lx_cons] at h k ⊢
    rcases h with h | ⟨rfl, h⟩ <;> rcases k with k | ⟨rfl, k⟩
    · exact .inl (by omega)
    · exact .inl h
    · exact .inl k
    · exact .inr ⟨rfl, lx_trans h k⟩
theorem lx_asymm {a b : List Int} (h : lx a b = true) : lx b a = false := by
  cases e : lx b a with
  | false => rfl
  | true =>
    have := lx_trans h e
    rw [lx_irr] at this
    cases this
theorem lx_total : ∀ {a b : List Int}, a.length = b.length → lx a b = true ∨ a = b ∨ lx b a = true
  | [], [], _ => .inr (.inl rfl)
  | [], _ :: _, h => by simp at h
  | _ :: _, [], h => by simp at h
  | x :: a, y :: b, h => by
    simp only [List.length_cons, Nat.add_right_cancel_iff] at h
    rw [lx_cons, lx_cons]
    rcases lx_total h with k | rfl | k
    · rcases Int.lt_trichotomy x y with q | q | q
      · exact .inl (.inl q)
      · exact .inl (.inr ⟨q, k⟩)
      · exact .inr (.inr (.inl q))
    · rcases Int.lt_trichotomy x y with q | q | q
      · exact .inl (.inl q)
      · exact .inr (.inl (by rw [q]))
      · exact .inr (.inr (.inl q))
    · rcases Int.lt_trichotomy x y with q | q | q
      · exact .inl (.inl q)
      · exact .inr (.inr (.inr ⟨q.symm, k⟩))
      · exact .inr (.inr (.inl q))
theorem lx_app : ∀ {a c b d : List Int}, a.length = c.length → lx (a ++ b) (c ++ d) = (lx a c || (decide (a = c) && lx b d))
  | [], [], b, d, _ => by simp [lx]
  | [], _ :: _, _, _, h => by simp at h
  | _ :: _, [], _, _, h => by simp at h
  | x :: a, y :: c, b, d, h => by
    simp only [List.length_cons, Nat.add_right_cancel_iff] at h
    simp only [List.cons_append, lx, lx_app h, List.cons.injEq]
    by_cases e : x = y
    · subst e; simp
    · simp [e]
/-! ### how many rows lie below a bound -/
def bl (L : Rows) (b : List Int) : Nat := L.countP fun r => lx r b
theorem bl_nil (b : List Int) : bl [] b = 0 := rfl
theorem bl_app (L M : Rows) (b : List Int) : bl (L ++ M) b = bl L b + bl M b := by simp [bl]
theorem bl_cons (r : List Int) (L : Rows) (b : List Int) : bl (r :: L) b = (if lx r b = true then 1 else 0) + bl L b := by
  simp only [bl, List.countP_cons]; omega
theorem bl_all {L : Rows} {b : List Int} (h : ∀ r ∈ L, lx r b = true) : bl L b = L.length := by
  unfold bl; exact List.countP_eq_length.mpr h
theorem bl_none {L : Rows} {b : List Int} (h : ∀ r ∈ L, lx r b = false) : bl L b = 0 := by
  unfold bl; exact List.countP_eq_zero.mpr fun r hr => by simp [h r hr]
theorem bl_le (L : Rows) (b : List Int) : bl L b ≤ L.length := List.countP_le_length
/-- rising, each once -/
def Up (L : Rows) : Prop := L.Pairwise fun a b => lx a b = true
/-- all of one width -/
def Wd (w : Nat) (L : Rows) : Prop := ∀ r ∈ L, r.length = w
theorem Up.nil : Up [] := List.Pairwise.nil
theorem up_app {L M : Rows} (hL : Up L) (hM : Up M) (h : ∀ a ∈ L, ∀ b ∈ M, lx a b = true) : Up (L ++ M) :=
  List.pairwise_append.mpr ⟨hL, hM, h⟩
theorem up_cons {r : List Int} {L : Rows} : Up (r :: L) ↔ (∀ b ∈ L, lx r b = true) ∧ Up L := List.pairwise_cons
/-- the i-th row has i rows below it -/
theorem bl_get {L : Rows} (h : Up L) : ∀ {i : Nat} {r : List Int}, L[i]? = some r → bl L r = i := by
  induction L with
  | nil => intro i r e; simp at e
  | cons a L ih =>
    intro i r e
    obtain ⟨h1, h2⟩ := up_cons.mp h
    cases i with
    | zero =>
      simp at e
      subst e
      rw [bl_cons, lx_irr, bl_none fun b hb => lx_asymm (h1 b hb)]
      simp
    | succ i =>
      simp at e
      rw [bl_cons, h1 r (List.mem_of_getElem? e), ih h2 e]
      simp; omega
theorem get_bl {L : Rows} (h : Up L) {r : List Int} (hr : r ∈ L) : L[bl L r]? = some r := by
  obtain ⟨i, hi⟩ := List.mem_iff_getElem?.mp hr
  rw [bl_get h hi, hi]
theorem lt_get {L : Rows} (h : Up L) {i j : Nat} {a b : List Int} (ha : L[i]? = some a) (hb : L[j]? = some b) (hij : i < j) : lx a b = true := by
  obtain ⟨h1, e1⟩ := List.getElem?_eq_some_iff.mp ha
  obtain ⟨h2, e2⟩ := List.getElem?_eq_some_iff.mp hb
  have := List.pairwise_iff_getElem.mp h i j h1 h2 hij
  rw [e1, e2] at this
  exact this
theorem bl_mem_lt {L : Rows} (h : Up L) {r : List Int} (hr : r ∈ L) : bl L r < L.length := (List.getElem?_eq_some_iff.mp (get_bl h hr)).1
/-! ### the next bound above a row -/
theorem lx_above : ∀ {r ini : List Int} {x : Int}, r.length = ini.length + 1 → (lx r (ini ++ [x + 1]) = true ↔ lx r (ini ++ [x]) = true ∨ r = ini ++ [x])
  | [], ini, x, h => by simp at h
  | [y], [], x, _ => by
    simp only [List.nil_append, lx_cons, List.cons.injEq, and_true]
    simp [lx]; omega
  | _ :: _ :: _, [], x, h => by simp at h
  | [_], _ :: _, x, h => by simp at h
  | y :: z :: r, c :: ini, x, h => by
    have h' : (z :: r).length = ini.length + 1 := by simpa using h
    simp only [List.cons_append, lx_cons, lx_above h', List.cons.injEq]
    constructor
    · rintro (q | ⟨q, q2 | q2⟩)
      · exact .inl (.inl q)
      · exact .inl (.inr ⟨q, q2⟩)
      · exact .inr ⟨q, q2⟩
    · rintro ((q | ⟨q, q2⟩) | ⟨q, q2⟩)
      · exact .inl q
      · exact .inr ⟨q, .inl q2⟩
      · exact .inr ⟨q, .inr q2⟩
theorem bl_above {L : Rows} (h : Up L) {ini : List Int} {x : Int} (hw : Wd (ini.length + 1) L) {i : Nat} (e : L[i]? = some (ini ++ [x])) : bl L (ini ++ [x + 1]) = i + 1 := by
  have h1 := bl_get h e
  have hm : (ini ++ [x]) ∈ L := List.mem_of_getElem? e
  have key : ∀ M : Rows, Up M → Wd (ini.length + 1) M → bl M (ini ++ [x + 1]) = bl M (ini ++ [x]) + M.count (ini ++ [x]) := by
    intro M
    induction M with
    | nil => intro _ _; rfl
    | cons r M ih =>
      intro hu hwM
      have hw' : Wd (ini.length + 1) M := fun a ha => hwM a (List.mem_cons_of_mem _ ha)
      rw [bl_cons, bl_cons, ih (up_cons.mp hu).2 hw', List.count_cons]
      have q := lx_above (x := x) (hwM r List.mem_cons_self)
      by_cases e1 : lx r (ini ++ [x]) = true
      · have e2 : r ≠ ini ++ [x] := fun z => by rw [z, lx_irr] at e1; cases e1
        rw [if_pos (q.mpr (.inl e1)), if_pos e1, if_neg (by simpa using e2)]; omega
      · by_cases e2 : r = ini ++ [x]
        · rw [if_pos (q.mpr (.inr e2)), if_neg e1, if_pos (by simpa using e2)]; omega
        · rw [if_neg (fun z => (q.mp z).elim e1 e2), if_neg e1, if_neg (by simpa using e2)]; omega
  rw [key L h hw, h1]
  have nd : L.Nodup := List.Pairwise.imp (fun {a b} hab => by rintro rfl; rw [lx_irr] at hab; cases hab) h
  have c1 : List.count (ini ++ [x]) L ≤ 1 := List.nodup_iff_count.mp nd _
  have c2 : 0 < List.count (ini ++ [x]) L := List.count_pos_iff.mpr hm
  omega
/-! ### rows side by side -/
def cross (L M : Rows) : Rows := L.flatMap fun a => M.map (a ++ ·)
def prod : List Rows → Rows
  | [] => [[]]
  | L :: Ls => cross L (prod Ls)
theorem cross_nil (M : Rows) : cross [] M = [] := rfl
theorem cross_cons (a : List Int) (L M : Rows) : cross (a :: L) M = M.map (a ++ ·) ++ cross L M := rfl
theorem cross_app (L L' M : Rows) : cross (L ++ L') M = cross L M ++ cross L' M := by simp [cross]
theorem cross_one (L : Rows) : cross L [[]] = L := by
  induction L with
  | nil => rfl
  | cons a L ih => rw [cross_cons, ih]; simp
theorem one_cross (L : Rows) : cross [[]] L = L := by simp [cross]
theorem cross_map (a : List Int) (L M : Rows) : cross (L.map (a ++ ·)) M = (cross L M).map (a ++ ·) := by
  induction L with
  | nil => rfl
  | cons b L ih => rw [List.map_cons, cross_cons, cross_cons, ih, List.map_append]; simp [Function.comp_def]
theorem cross_assoc (L M N : Rows) : cross (cross L M) N = cross L (cross M N) := by
  induction L with
  | nil => rfl
  | cons a L ih => rw [cross_cons, cross_app, ih, cross_map, cross_cons]
theorem prod_app (xs ys : List Rows) : prod (xs ++ ys) = cross (prod xs) (prod ys) := by
  induction xs with
  | nil => exact (one_cross _).symm
  | cons x xs ih =>
    show cross x (prod (xs ++ ys)) = cross (cross x (prod xs)) (prod ys)
    rw [ih, cross_assoc]
theorem prod_one (L : Rows) : prod [L] = L := cross_one L
theorem prod_snoc (xs : List Rows) (L : Rows) : prod (xs ++ [L]) = cross (prod xs) L := by rw [prod_app, prod_one]
theorem len_cross (L M : Rows) : (cross L M).length = L.length * M.length := by
  induction L with
  | nil => simp [cross_nil]
  | cons a L ih => rw [cross_cons, List.length_append, List.length_map, ih, List.length_cons, Nat.succ_mul]; omega
theorem mem_cross {L M : Rows} {r : List Int} : r ∈ cross L M ↔ ∃ a ∈ L, ∃ b ∈ M, a ++ b = r := by simp [cross]
theorem wd_cross {u v : Nat} {L M : Rows} (hL : Wd u L) (hM : Wd v M) : Wd (u + v) (cross L M) := fun r hr => by
  obtain ⟨a, ha, b, hb, rfl⟩ := mem_cross.mp hr
  rw [List.length_append, hL a ha, hM b hb]
theorem mem_cross_app {w : Nat} {L M : Rows} (hL : Wd w L) {a b : List Int} (ha : a.length = w) : (a ++ b) ∈ cross L M ↔ a ∈ L ∧ b ∈ M := by
  rw [mem_cross]
  constructor
  · rintro ⟨c, hc, d, hd, e⟩
    obtain ⟨rfl, rfl⟩ := List.append_inj e (by rw [hL c hc, ha])
    exact ⟨hc, hd⟩
  · rintro ⟨h1, h2⟩
    exact ⟨a, h1, b, h2, rfl⟩
theorem bl_map_app (a : List Int) (M : Rows) (c d : List Int) (h : a.length = c.length) : bl (M.map (a ++ ·)) (c ++ d) = if lx a c = true then M.length else if a = c then bl M d else 0 := by
  induction M with
  | nil => simp [bl_nil]
  | cons m M ih =>
    rw [List.map_cons, bl_cons, ih, lx_app h, bl_cons, List.length_cons]
    by_cases e1 : lx a c = true
    · simp [e1]; omega
    · by_cases e2 : a = c
      · subst e2; simp [lx_irr]
      · simp [e1, e2]
theorem bl_cross {w : Nat} {L M : Rows} (hu : Up L) (hL : Wd w L) {c d : List Int} (hc : c.length = w) : bl (cross L M) (c ++ d) = bl L c * M.length + if c ∈ L then bl M d else 0 := by
  induction L with
  | nil => simp [cross_nil, bl_nil]
  | cons a L ih =>
    have hL' : Wd w L := fun r hr => hL r (List.mem_cons_of_mem _ hr)
    obtain ⟨h1, h2⟩ := up_cons.mp hu
    rw [cross_cons, bl_app, ih h2 hL', bl_map_app a M c d (by rw [hL a List.mem_cons_self, hc]), bl_cons]
    by_cases e1 : lx a c = true
    · have e2 : c ≠ a := fun z => by rw [z, lx_irr] at e1; cases e1
      simp only [e1, if_true, List.mem_cons, e2, false_or, Nat.add_mul, Nat.one_mul]
      omega
    · by_cases e2 : a = c
      · subst e2
        have e3 : a ∉ L := fun z => by have := h1 a z; rw [lx_irr] at this; cases this
        have e4 : bl L a = 0 := bl_none fun r hr => lx_asymm (h1 r hr)
        simp [lx_irr, e3, e4]
      · have e2' : ¬ c = a := fun z => e2 z.symm
        simp [e1, e2, e2']
theorem up_cross {w : Nat} {L M : Rows} (hu : Up L) (hL : Wd w L) (hM : Up M) : Up (cross L M) := by
  induction L with
  | nil => exact Up.nil
  | cons a L ih =>
    have hL' : Wd w L := fun r hr => hL r (List.mem_cons_of_mem _ hr)
    obtain ⟨h1, h2⟩ := up_cons.mp hu
    rw [cross_cons]
    refine up_app ?_ (ih h2 hL') ?_
    · refine List.pairwise_map.mpr (List.Pairwise.imp (fun {x y} hxy => ?_) hM)
      rw [lx_app rfl]; simp [lx_irr, hxy]
    · intro x hx y hy
      obtain ⟨m, _, rfl⟩ := List.mem_map.mp hx
      obtain ⟨b, hb, c, _, rfl⟩ := mem_cross.mp hy
      rw [lx_app (by rw [hL a List.mem_cons_self, hL' b hb])]
      simp [h1 b hb]
theorem get_cross {L M : Rows} : ∀ {i : Nat}, i < L.length * M.length → (cross L M)[i]? = some ((L[i / M.length]?).getD [] ++ (M[i % M.length]?).getD []) := by
  induction L with
  | nil => intro i h; simp at h
  | cons a L ih =>
    intro i h
    have hM : 0 < M.length := by
      rcases Nat.eq_zero_or_pos M.length with e | e
      · rw [e] at h; simp at h
      · exact e
    rw [cross_cons]
    by_cases hi : i < M.length
    · rw [List.getElem?_append_left (by simpa using hi), List.getElem?_map, Nat.div_eq_of_lt hi, Nat.mod_eq_of_lt hi, List.getElem?_eq_getElem hi]
      simp
    · have hi' : M.length ≤ i := Nat.le_of_not_lt hi
      rw [List.getElem?_append_right (by simpa using hi'), List.length_map]
      have e1 : i / M.length = (i - M.length) / M.length + 1 := by
        rw [← Nat.add_div_right _ hM, Nat.sub_add_cancel hi']
      have e2 : i % M.length = (i - M.length) % M.length := by
        rw [← Nat.add_mod_right (i - M.length), Nat.sub_add_cancel hi']
      rw [ih (i := i - M.length) (by rw [List.length_cons, Nat.succ_mul] at h; omega), e1, e2, List.getElem?_cons_succ]
/-! ### bunches -/
abbrev Ent := Int × List Nat
def entRows (R : Nat → Rows) (e : Ent) : Rows := (prod (e.2.map R)).map (e.1 :: ·)
def bunRows (R : Nat → Rows) (es : List Ent) : Rows := es.flatMap (entRows R)
theorem bun_nil (R : Nat → Rows) : bunRows R [] = [] := rfl
theorem bun_cons (R : Nat → Rows) (e : Ent) (es : List Ent) : bunRows R (e :: es) = entRows R e ++ bunRows R es := rfl
theorem bun_app (R : Nat → Rows) (es fs : List Ent) : bunRows R (es ++ fs) = bunRows R es ++ bunRows R fs := by simp [bunRows]
theorem len_ent (R : Nat → Rows) (e : Ent) : (entRows R e).length = (prod (e.2.map R)).length := by simp [entRows]
theorem mem_ent {R : Nat → Rows} {e : Ent} {v : Int} {b : List Int} : (v :: b) ∈ entRows R e ↔ e.1 = v ∧ b ∈ prod (e.2.map R) := by
  simp only [entRows, List.mem_map, List.cons.injEq]
  constructor
  · rintro ⟨a, ha, h1, rfl⟩; exact ⟨h1, ha⟩
  · rintro ⟨h1, h2⟩; exact ⟨b, h2, h1, rfl⟩
theorem ent_head {R : Nat → Rows} {e : Ent} {r : List Int} (h : r ∈ entRows R e) : ∃ b, r = e.1 :: b ∧ b ∈ prod (e.2.map R) := by
  obtain ⟨b, hb, rfl⟩ := List.mem_map.mp h
  exact ⟨b, rfl, hb⟩
theorem mem_bun {R : Nat → Rows} {es : List Ent} {r : List Int} : r ∈ bunRows R es ↔ ∃ e ∈ es, r ∈ entRows R e := by simp [bunRows]
theorem bun_low {R : Nat → Rows} {es : List Ent} {v : Int} (h : ∀ e ∈ es, e.1 < v) (b : List Int) : bl (bunRows R es) (v :: b) = (bunRows R es).length ∧ (v :: b) ∉ bunRows R es := by
  constructor
  · refine bl_all fun r hr => ?_
    obtain ⟨e, he, hr⟩ := mem_bun.mp hr
    obtain ⟨c, rfl, _⟩ := ent_head hr
    exact lx_cons.mpr (.inl (h e he))
  · intro hm
    obtain ⟨e, he, hr⟩ := mem_bun.mp hm
    have := (mem_ent.mp hr).1
    have := h e he
    omega
theorem bun_high {R : Nat → Rows} {es : List Ent} {v : Int} (h : ∀ e ∈ es, v < e.1) (b : List Int) : bl (bunRows R es) (v :: b) = 0 ∧ (v :: b) ∉ bunRows R es := by
  constructor
  · refine bl_none fun r hr => ?_
    obtain ⟨e, he, hr⟩ := mem_bun.mp hr
    obtain ⟨c, rfl, _⟩ := ent_head hr
    have := h e he
    simp only [lx]
    simp; omega
  · intro hm
    obtain ⟨e, he, hr⟩ := mem_bun.mp hm
    have := (mem_ent.mp hr).1
    have := h e he
    omega
theorem ent_at {R : Nat → Rows} {e : Ent} (b : List Int) : bl (entRows R e) (e.1 :: b) = bl (prod (e.2.map R)) b := by
  unfold entRows bl
  rw [List.countP_map]
  congr 1
  funext r
  simp [lx]
/-- values rising -/
def UpE (es : List Ent) : Prop := es.Pairwise fun a b => a.1 < b.1
theorem bun_at {R : Nat → Rows} {pre post : List Ent} {e : Ent} (h : UpE (pre ++ e :: post)) (b : List Int) :
    bl (bunRows R (pre ++ e :: post)) (e.1 :: b) = (bunRows R pre).length + bl (prod (e.2.map R)) b ∧ ((e.1 :: b) ∈ bunRows R (pre ++ e :: post) ↔ b ∈ prod (e.2.map R)) := by
  obtain ⟨_, h2, h3⟩ := List.pairwise_append.mp h
  obtain ⟨h4, _⟩ := List.pairwise_cons.mp h2
  have l := bun_low (R := R) (es := pre) (v := e.1) (fun x hx => h3 x hx e List.mem_cons_self) b
  have g := bun_high (R := R) (es := post) (v := e.1) h4 b
  constructor
  · rw [bun_app, bun_cons, bl_app, bl_app, l.1, g.1, ent_at]; omega
  · rw [bun_app, bun_cons, List.mem_append, List.mem_append, mem_ent]
    constructor
    · rintro (q | q | q)
      · exact absurd q l.2
      · exact q.2
      · exact absurd q g.2
    · intro q; exact .inr (.inl ⟨rfl, q⟩)
theorem bun_out {R : Nat → Rows} {pre post : List Ent} {v : Int} (h1 : ∀ e ∈ pre, e.1 < v) (h2 : ∀ e ∈ post, v < e.1) (b : List Int) :
    bl (bunRows R (pre ++ post)) (v :: b) = (bunRows R pre).length ∧ (v :: b) ∉ bunRows R (pre ++ post) := by
  have l := bun_low (R := R) h1 b
  have g := bun_high (R := R) h2 b
  constructor
  · rw [bun_app, bl_app, l.1, g.1]; omega
  · rw [bun_app, List.mem_append]; rintro (q | q)
    · exact l.2 q
    · exact g.2 q
theorem up_ent {R : Nat → Rows} {e : Ent} (h : Up (prod (e.2.map R))) : Up (entRows R e) :=
  List.pairwise_map.mpr (List.Pairwise.imp (fun {a b} hab => lx_cons.mpr (.inr ⟨rfl, hab⟩)) h)
theorem up_bun {R : Nat → Rows} {es : List Ent} (hu : UpE es) (h : ∀ e ∈ es, Up (prod (e.2.map R))) : Up (bunRows R es) := by
  induction es with
  | nil => exact Up.nil
  | cons e es ih =>
    obtain ⟨h1, h2⟩ := List.pairwise_cons.mp hu
    rw [bun_cons]
    refine up_app (up_ent (h e List.mem_cons_self)) (ih h2 fun x hx => h x (List.mem_cons_of_mem _ hx)) fun a ha b hb => ?_
    obtain ⟨c, rfl, _⟩ := ent_head ha
    obtain ⟨f, hf, hb⟩ := mem_bun.mp hb
    obtain ⟨d, rfl, _⟩ := ent_head hb
    exact lx_cons.mpr (.inl (h1 f hf))
theorem wd_bun {R : Nat → Rows} {es : List Ent} {w : Nat} (h : ∀ e ∈ es, Wd w (prod (e.2.map R))) : Wd (w + 1) (bunRows R es) := fun r hr => by
  obtain ⟨e, he, hr⟩ := mem_bun.mp hr
  obtain ⟨c, rfl, hc⟩ := ent_head hr
  rw [List.length_cons, h e he c hc]
/-- products of rising lists of told widths -/
theorem up_prod {f : Nat → Rows} {g : Nat → Nat} : ∀ {ps : List Nat}, (∀ p ∈ ps, Up (f p) ∧ Wd (g p) (f p)) → Up (prod (ps.map f)) ∧ Wd ((ps.map g).sum) (prod (ps.map f))
  | [], _ => ⟨List.pairwise_singleton _ _, fun r hr => by
      have : r = [] := by simpa [prod] using hr
      rw [this]; rfl⟩
  | p :: ps, h => by
    have q := up_prod (f := f) (g := g) fun x hx => h x (List.mem_cons_of_mem _ hx)
    have h1 := h p List.mem_cons_self
    exact ⟨up_cross h1.1 h1.2 q.1, by
      have := wd_cross h1.2 q.2
      rw [List.map_cons, List.sum_cons, List.map_cons]
      exact this⟩
/-- the product of counts -/
def prodN (c : Nat → Nat) (ps : List Nat) : Nat := ps.foldr (fun p a => c p * a) 1
theorem prodN_cons (c : Nat → Nat) (p : Nat) (ps : List Nat) : prodN c (p :: ps) = c p * prodN c ps := rfl
theorem len_prod (f : Nat → Rows) : ∀ ps : List Nat, (prod (ps.map f)).length = prodN (fun p => (f p).length) ps
  | [] => rfl
  | p :: ps => by
    show (cross (f p) (prod (ps.map f))).length = _
    rw [len_cross, len_prod f ps]
    rfl
theorem prodN_snoc (c : Nat → Nat) (ps : List Nat) (p : Nat) : prodN c (ps ++ [p]) = prodN c ps * c p := by
  induction ps with
  | nil => simp [prodN]
  | cons a ps ih => rw [List.cons_append, prodN_cons, prodN_cons, ih, Nat.mul_assoc]
theorem prodN_take (c : Nat → Nat) (ps : List Nat) {i p : Nat} (h : ps[i]? = some p) : prodN c (ps.take (i + 1)) = prodN c (ps.take i) * c p := by
  rw [List.take_add_one, h]; exact prodN_snoc c _ p
end Fb
set_option Elab.async false
set_option linter.all false
/-! Trees told as pairs (column, over): children, what stands beneath, the order; each column once, children behind. -/
namespace Fb
section
variable {κ : Type} [DecidableEq κ]
abbrev Prs (κ : Type) := List (κ × Option κ)
def kidsOf (ps : Prs κ) (o : Option κ) : List κ := (ps.filter fun p => decide (p.2 = o)).map (·.1)
def ben (ps : Prs κ) : Nat → κ → List κ
  | 0, _ => []
  | n + 1, c => c :: (kidsOf ps (some c)).flatMap (ben ps n)
/-- unlike names, each over one told ahead, at most eight -/
structure GoodP (ps : Prs κ) : Prop where
  nd : (ps.map (·.1)).Nodup
  up : ∀ (i : Nat) (c o : κ), ps[i]? = some (c, some o) → ∃ j : Nat, j < i ∧ ∃ q, ps[j]? = some (o, q)
  le : ps.length ≤ 8
def order (ps : Prs κ) : List κ := (kidsOf ps none).flatMap (ben ps 8)
theorem mem_kids {ps : Prs κ} {o : Option κ} {c : κ} : c ∈ kidsOf ps o ↔ (c, o) ∈ ps := by
  simp only [kidsOf, List.mem_map, List.mem_filter, decide_eq_true_eq]
  constructor
  · rintro ⟨⟨a, b⟩, ⟨h, rfl⟩, rfl⟩; exact h
  · intro h; exact ⟨(c, o), ⟨h, rfl⟩, rfl⟩
variable {ps : Prs κ}
theorem GoodP.uniq (g : GoodP ps) {i j : Nat} {c : κ} {a b : Option κ} (h1 : ps[i]? = some (c, a)) (h2 : ps[j]? = some (c, b)) : i = j := by
  obtain ⟨l1, e1⟩ := List.getElem?_eq_some_iff.mp h1
  obtain ⟨l2, e2⟩ := List.getElem?_eq_some_iff.mp h2
  have k1 : i < (ps.map (·.1)).length := by simpa using l1
  have k2 : j < (ps.map (·.1)).length := by simpa using l2
  refine (List.getElem_inj (h₀ := k1) (h₁ := k2) g.nd).mp ?_
  simp [e1, e2]
theorem GoodP.over1 (g : GoodP ps) {c : κ} {a b : Option κ} (h1 : (c, a) ∈ ps) (h2 : (c, b) ∈ ps) : a = b := by
  obtain ⟨i, hi⟩ := List.mem_iff_getElem?.mp h1
  obtain ⟨j, hj⟩ := List.mem_iff_getElem?.mp h2
  have e := g.uniq hi hj
  subst e
  rw [hi] at hj
  exact congrArg Prod.snd (Option.some.inj hj)
theorem kids_nodup (g : GoodP ps) (o : Option κ) : (kidsOf ps o).Nodup := by
  unfold kidsOf
  exact (g.nd.sublist ((List.filter_sublist).map _))
/-- the rank of a column: the lower, the further down the list -/
def rankP (ps : Prs κ) (c : κ) : Nat := ps.length - (ps.map (·.1)).idxOf c
theorem GoodP.idx (g : GoodP ps) {i : Nat} {c : κ} {a : Option κ} (h : ps[i]? = some (c, a)) : (ps.map (·.1)).idxOf c = i := by
  obtain ⟨l1, e1⟩ := List.getElem?_eq_some_iff.mp h
  have k1 : i < (ps.map (·.1)).length := by simpa using l1
  have e2 : (ps.map (·.1))[i] = c := by simp [e1]
  have hm : c ∈ ps.map (·.1) := e2 ▸ List.getElem_mem k1
  have hx := List.idxOf_lt_length_of_mem hm
  have ex : (ps.map (·.1))[(ps.map (·.1)).idxOf c] = c := List.getElem_idxOf hx
  exact (List.getElem_inj (h₀ := hx) (h₁ := k1) g.nd).mp (ex.trans e2.symm)
theorem rank_pos (g : GoodP ps) {c : κ} {a : Option κ} (h : (c, a) ∈ ps) : 1 ≤ rankP ps c ∧ rankP ps c ≤ 8 := by
  obtain ⟨i, hi⟩ := List.mem_iff_getElem?.mp h
  have e := g.idx hi
  have l := (List.getElem?_eq_some_iff.mp hi).1
  have := g.le
  unfold rankP
  omega
theorem rank_kid (g : GoodP ps) {c k : κ} (h : k ∈ kidsOf ps (some c)) : rankP ps k < rankP ps c ∧ ∃ o, (c, o) ∈ ps := by
  obtain ⟨i, hi⟩ := List.mem_iff_getElem?.mp (mem_kids.mp h)
  obtain ⟨j, hj, q, hq⟩ := g.up i k c hi
  have e1 := g.idx hi
  have e2 := g.idx hq
  have l := (List.getElem?_eq_some_iff.mp hi).1
  refine ⟨?_, q, List.mem_of_getElem? hq⟩
  unfold rankP
  omega
theorem ben_stable (g : GoodP ps) : ∀ (k : Nat) (c : κ), (∃ o, (c, o) ∈ ps) → rankP ps c ≤ k → ∀ n m, k ≤ n → k ≤ m → ben ps n c = ben ps m c := by
  intro k
  induction k with
  | zero =>
    intro c ⟨o, ho⟩ hr
    have := (rank_pos g ho).1
    omega
  | succ k ih =>
    intro c hc hr n m hn hm
    obtain ⟨n, rfl⟩ : ∃ n', n = n' + 1 := ⟨n - 1, by omega⟩
    obtain ⟨m, rfl⟩ : ∃ m', m = m' + 1 := ⟨m - 1, by omega⟩
    show c :: _ = c :: _
    congr 1
    have : ∀ L : List κ, (∀ x ∈ L, x ∈ kidsOf ps (some c)) → L.flatMap (ben ps n) = L.flatMap (ben ps m) := by
      intro L
      induction L with
      | nil => intro _; rfl
      | cons x L ihL =>
        intro hL
        have hx := hL x List.mem_cons_self
        have hk := (rank_kid g hx).1
        rw [List.flatMap_cons, List.flatMap_cons, ihL fun y hy => hL y (List.mem_cons_of_mem _ hy), ih x ⟨_, mem_kids.mp hx⟩ (by omega) n m (by omega) (by omega)]
    exact this _ fun x hx => hx
/-- what stands beneath a column, told by its children -/
theorem ben_eq (g : GoodP ps) {c : κ} (hc : ∃ o, (c, o) ∈ ps) : ben ps 8 c = c :: (kidsOf ps (some c)).flatMap (ben ps 8) := by
  have h8 : rankP ps c ≤ 8 := let ⟨_, h⟩ := hc; (rank_pos g h).2
  have e : ben ps 8 c = ben ps 9 c := ben_stable g 8 c hc h8 8 9 (by omega) (by omega)
  rw [e]
  rfl
theorem ben_at (g : GoodP ps) {c : κ} (hc : ∃ o, (c, o) ∈ ps) {n : Nat} (h : rankP ps c ≤ n) : ben ps n c = ben ps 8 c := by
  have h8 : rankP ps c ≤ 8 := let ⟨_, h⟩ := hc; (rank_pos g h).2
  exact ben_stable g (rankP ps c) c hc (Nat.le_refl _) n 8 h h8
/-! ### each column once -/
/-- x is c or beneath it -/
inductive Und (ps : Prs κ) : κ → κ → Prop
  | refl (x : κ) : Und ps x x
  | step {x p c : κ} : (x, some p) ∈ ps → Und ps p c → Und ps x c
theorem Und.snoc {x k c : κ} (h : Und ps x k) (hk : (k, some c) ∈ ps) : Und ps x c := by
  induction h with
  | refl x => exact .step hk (.refl _)
  | step h _ ih => exact .step h (ih hk)
theorem und_ben : ∀ (n : Nat) {x c : κ}, x ∈ ben ps n c → Und ps x c
  | 0, x, c, h => by simp [ben] at h
  | n + 1, x, c, h => by
    simp only [ben, List.mem_cons, List.mem_flatMap] at h
    rcases h with rfl | ⟨k, hk, hx⟩
    · exact .refl _
    · exact (und_ben n hx).snoc (mem_kids.mp hk)
theorem Und.rank (g : GoodP ps) {x c : κ} (h : Und ps x c) : rankP ps x ≤ rankP ps c := by
  induction h with
  | refl => exact Nat.le_refl _
  | step h _ ih => exact Nat.le_trans (Nat.le_of_lt (rank_kid g (mem_kids.mpr h)).1) ih
theorem Und.chain (g : GoodP ps) {x a b : κ} (h1 : Und ps x a) (h2 : Und ps x b) : Und ps a b ∨ Und ps b a := by
  induction h1 with
  | refl => exact .inl h2
  | @step x p c hx hp ih =>
    cases h2 with
    | refl => exact .inr (.step hx hp)
    | @step _ p' _ hx' hp' =>
      have e : some p = some p' := g.over1 hx hx'
      cases e
      exact ih hp'
theorem sib_apart (g : GoodP ps) {o : Option κ} {a b : κ} (ha : a ∈ kidsOf ps o) (hb : b ∈ kidsOf ps o) (hne : a ≠ b) : ¬ Und ps a b := by
  intro h
  cases h with
  | refl => exact hne rfl
  | @step _ p _ hx hp =>
    have e : o = some p := g.over1 (mem_kids.mp ha) hx
    subst e
    have r1 := hp.rank g
    have r2 := (rank_kid g hb).1
    omega
theorem ben_sib (g : GoodP ps) {o : Option κ} {a b x : κ} {n : Nat} (ha : a ∈ kidsOf ps o) (hb : b ∈ kidsOf ps o) (hne : a ≠ b) (hxa : x ∈ ben ps n a) (hxb : x ∈ ben ps n b) : False := by
  rcases (und_ben n hxa).chain g (und_ben n hxb) with h | h
  · exact sib_apart g ha hb hne h
  · exact sib_apart g hb ha (Ne.symm hne) h
theorem flat_nodup (g : GoodP ps) {o : Option κ} {n : Nat} (hn : ∀ k ∈ kidsOf ps o, (ben ps n k).Nodup) : ((kidsOf ps o).flatMap (ben ps n)).Nodup := by
  have : ∀ L : List κ, L.Nodup → (∀ x ∈ L, x ∈ kidsOf ps o) → (L.flatMap (ben ps n)).Nodup := by
    intro L
    induction L with
    | nil => intro _ _; exact List.nodup_nil
    | cons a L ih =>
      intro hL hm
      obtain ⟨h1, h2⟩ := List.nodup_cons.mp hL
      rw [List.flatMap_cons]
      refine List.nodup_append.mpr ⟨hn a (hm a List.mem_cons_self), ih h2 fun y hy => hm y (List.mem_cons_of_mem _ hy), ?_⟩
      intro x hx y hy e
      subst e
      obtain ⟨b, hb, hxb⟩ := List.mem_flatMap.mp hy
      exact ben_sib g (hm a List.mem_cons_self) (hm b (List.mem_cons_of_mem _ hb)) (fun e => h1 (e ▸ hb)) hx hxb
  exact this _ (kids_nodup g o) fun x hx => hx
theorem ben_nodup (g : GoodP ps) : ∀ (n : Nat) (c : κ), (ben ps n c).Nodup
  | 0, _ => List.nodup_nil
  | n + 1, c => by
    refine List.nodup_cons.mpr ⟨fun h => ?_, flat_nodup g fun k _ => ben_nodup g n k⟩
    obtain ⟨k, hk, hx⟩ := List.mem_flatMap.mp h
    have r1 := (und_ben n hx).rank g
    have r2 := (rank_kid g hk).1
    omega
theorem order_nodup (g : GoodP ps) : (order ps).Nodup := flat_nodup g fun k _ => ben_nodup g 8 k
/-! ### children behind -/
theorem ben_names : ∀ (n : Nat) {x c : κ}, (∃ o, (c, o) ∈ ps) → x ∈ ben ps n c → ∃ o, (x, o) ∈ ps
  | 0, _, _, _, h => by simp [ben] at h
  | n + 1, x, c, hc, h => by
    simp only [ben, List.mem_cons, List.mem_flatMap] at h
    rcases h with rfl | ⟨k, hk, hx⟩
    · exact hc
    · exact ben_names n ⟨_, mem_kids.mp hk⟩ hx
theorem order_names {x : κ} (h : x ∈ order ps) : ∃ o, (x, o) ∈ ps := by
  obtain ⟨k, hk, hx⟩ := List.mem_flatMap.mp h
  exact ben_names 8 ⟨_, mem_kids.mp hk⟩ hx
def Aft (L : List κ) (c k : κ) : Prop := ∃ l1 l2, L = l1 ++ c :: l2 ∧ k ∈ l2
theorem Aft.wrap {L A B : List κ} {c k : κ} (h : Aft L c k) : Aft (A ++ L ++ B) c k := by
  obtain ⟨l1, l2, rfl, hk⟩ := h
  exact ⟨A ++ l1, l2 ++ B, by simp, List.mem_append_left _ hk⟩
theorem aft_flat {f : κ → List κ} {L : List κ} {y c k : κ} (hy : y ∈ L) (h : Aft (f y) c k) : Aft (L.flatMap f) c k := by
  obtain ⟨A, B, rfl⟩ := List.append_of_mem hy
  rw [List.flatMap_append, List.flatMap_cons, ← List.append_assoc]
  exact h.wrap
theorem aft_ben (g : GoodP ps) : ∀ (n : Nat) {t c k : κ}, (∃ o, (t, o) ∈ ps) → rankP ps t ≤ n → c ∈ ben ps n t → k ∈ kidsOf ps (some c) → Aft (ben ps n t) c k
  | 0, _, _, _, _, _, h, _ => by simp [ben] at h
  | n + 1, t, c, k, ht, hr, h, hk => by
    simp only [ben, List.mem_cons, List.mem_flatMap] at h
    rcases h with rfl | ⟨y, hy, hc⟩
    · refine ⟨[], (kidsOf ps (some c)).flatMap (ben ps n), rfl, List.mem_flatMap.mpr ⟨k, hk, ?_⟩⟩
      have r1 := (rank_kid g hk).1
      have r2 := (rank_pos g (mem_kids.mp hk)).1
      obtain ⟨n, rfl⟩ : ∃ n', n = n' + 1 := ⟨n - 1, by omega⟩
      exact List.mem_cons_self
    · have r1 := (rank_kid g hy).1
      have a := aft_ben g n ⟨_, mem_kids.mp hy⟩ (by omega) hc hk
      obtain ⟨l1, l2, e, h⟩ := aft_flat (f := ben ps n) hy a
      exact ⟨t :: l1, l2, by simp [ben, e], h⟩
theorem aft_order (g : GoodP ps) {c k : κ} (hc : c ∈ order ps) (hk : k ∈ kidsOf ps (some c)) : Aft (order ps) c k := by
  obtain ⟨t, ht, h⟩ := List.mem_flatMap.mp hc
  exact aft_flat ht (aft_ben g 8 ⟨_, mem_kids.mp ht⟩ (rank_pos g (mem_kids.mp ht)).2 h hk)
theorem split_uniq {L l1 l2 m1 m2 : List κ} {c : κ} (nd : L.Nodup) (h1 : L = l1 ++ c :: l2) (h2 : L = m1 ++ c :: m2) : l1 = m1 ∧ l2 = m2 := by
  have k1 : L[l1.length]? = some c := by rw [h1]; simp
  have k2 : L[m1.length]? = some c := by rw [h2]; simp
  obtain ⟨a1, b1⟩ := List.getElem?_eq_some_iff.mp k1
  obtain ⟨a2, b2⟩ := List.getElem?_eq_some_iff.mp k2
  have e : l1.length = m1.length := (List.getElem_inj (h₀ := a1) (h₁ := a2) nd).mp (b1.trans b2.symm)
  have := List.append_inj (h1.symm.trans h2) e
  exact ⟨this.1, (List.cons.inj this.2).2⟩
/-- children of a column stand behind it in the order -/
theorem kid_behind (g : GoodP ps) {l1 l2 : List κ} {c k : κ} (h : order ps = l1 ++ c :: l2) (hk : k ∈ kidsOf ps (some c)) : k ∈ l2 := by
  have hc : c ∈ order ps := by rw [h]; simp
  obtain ⟨m1, m2, e, hm⟩ := aft_order g hc hk
  rw [(split_uniq (order_nodup g) h e).2]
  exact hm
theorem nodup_le {L M : List κ} (h : L.Nodup) (hs : ∀ x ∈ L, x ∈ M) : L.length ≤ M.length := by
  induction L generalizing M with
  | nil => exact Nat.zero_le _
  | cons a L ih =>
    obtain ⟨h1, h2⟩ := List.nodup_cons.mp h
    have ha : a ∈ M := hs a List.mem_cons_self
    have := ih (M := M.erase a) h2 fun x hx => (List.mem_erase_of_ne (fun e => h1 (by rw [← e]; exact hx))).mpr (hs x (List.mem_cons_of_mem _ hx))
    rw [List.length_erase_of_mem ha] at this
    have := List.length_pos_of_mem ha
    simp only [List.length_cons]
    omega
theorem order_le (g : GoodP ps) : (order ps).length ≤ 8 := by
  have h := nodup_le (M := ps.map (·.1)) (order_nodup g) fun x hx => by
    obtain ⟨o, ho⟩ := order_names hx
    exact List.mem_map.mpr ⟨_, ho, rfl⟩
  have := g.le
  rw [List.length_map] at h
  omega
/-- every top stands in the order -/
theorem top_order (g : GoodP ps) {t : κ} (h : t ∈ kidsOf ps none) : t ∈ order ps :=
  List.mem_flatMap.mpr ⟨t, h, by rw [ben_eq g ⟨_, mem_kids.mp h⟩]; exact List.mem_cons_self⟩
theorem kid_order (g : GoodP ps) {c k : κ} (hc : c ∈ order ps) (hk : k ∈ kidsOf ps (some c)) : k ∈ order ps := by
  obtain ⟨l1, l2, e, h⟩ := aft_order g hc hk
  rw [e]; simp [h]
theorem tops_pos (g : GoodP ps) (h : ps ≠ []) : kidsOf ps none ≠ [] := by
  cases ps with
  | nil => exact absurd rfl h
  | cons p r =>
    obtain ⟨c, o⟩ := p
    cases o with
    | none => intro e; have : c ∈ kidsOf ((c, none) :: r) none := mem_kids.mpr List.mem_cons_self; rw [e] at this; cases this
    | some o =>
      obtain ⟨j, hj, _⟩ := g.up 0 c o rfl
      omega
end
end Fb
set_option Elab.async false
set_option linter.all false
/-! Bunches along a tree, and their rows. -/
namespace Fb
section
variable {κ : Type} [DecidableEq κ]
abbrev BunK (κ : Type) := κ × List Ent
/-- the rows of a bunch, to a depth -/
def rf (B : List (BunK κ)) : Nat → Nat → Rows
  | 0, _ => []
  | k + 1, n => match B[n]? with
    | some b => bunRows (rf B k) b.2
    | none => []
def RR (B : List (BunK κ)) (n : Nat) : Rows := rf B 8 n
theorem rf_succ {B : List (BunK κ)} {k n : Nat} {b : BunK κ} (h : B[n]? = some b) : rf B (k + 1) n = bunRows (rf B k) b.2 := by
  show (match B[n]? with | some b => bunRows (rf B k) b.2 | none => []) = _
  rw [h]
/-- parts are numbers of bunches of just the children, in order -/
def PartsOk (ps : Prs κ) (B : List (BunK κ)) (o : Option κ) (ds : List Nat) : Prop :=
  ds.length = (kidsOf ps o).length ∧ ∀ (i d : Nat) (k : κ), ds[i]? = some d → (kidsOf ps o)[i]? = some k → ∃ b, B[d]? = some b ∧ b.1 = k
structure GoodB (ps : Prs κ) (B : List (BunK κ)) : Prop where
  gp : GoodP ps
  col : ∀ (n : Nat) (b : BunK κ), B[n]? = some b → b.1 ∈ order ps
  up : ∀ (n : Nat) (b : BunK κ), B[n]? = some b → UpE b.2
  ne : ∀ (n : Nat) (b : BunK κ), B[n]? = some b → b.2 ≠ []
  le : ∀ (n : Nat) (b : BunK κ), B[n]? = some b → b.2.length ≤ 13
  parts : ∀ (n : Nat) (b : BunK κ), B[n]? = some b → ∀ e ∈ b.2, PartsOk ps B (some b.1) e.2
variable {ps : Prs κ} {B : List (BunK κ)}
theorem PartsOk.at {o : Option κ} {ds : List Nat} (h : PartsOk ps B o ds) {i d : Nat} (hd : ds[i]? = some d) : ∃ k b, (kidsOf ps o)[i]? = some k ∧ B[d]? = some b ∧ b.1 = k := by
  have hi := (List.getElem?_eq_some_iff.mp hd).1
  have hk : i < (kidsOf ps o).length := by rw [← h.1]; exact hi
  obtain ⟨b, h1, h2⟩ := h.2 i d _ hd (List.getElem?_eq_getElem hk)
  exact ⟨_, b, List.getElem?_eq_getElem hk, h1, h2⟩
theorem PartsOk.mem {o : Option κ} {ds : List Nat} (h : PartsOk ps B o ds) {d : Nat} (hd : d ∈ ds) : ∃ k b, k ∈ kidsOf ps o ∧ B[d]? = some b ∧ b.1 = k := by
  obtain ⟨i, hi⟩ := List.mem_iff_getElem?.mp hd
  obtain ⟨k, b, h1, h2, h3⟩ := h.at hi
  exact ⟨k, b, List.mem_of_getElem? h1, h2, h3⟩
theorem flat_congr {α : Type} {f g : α → Rows} : ∀ {l : List α}, (∀ x ∈ l, f x = g x) → l.flatMap f = l.flatMap g
  | [], _ => rfl
  | a :: l, h => by rw [List.flatMap_cons, List.flatMap_cons, h a List.mem_cons_self, flat_congr fun x hx => h x (List.mem_cons_of_mem _ hx)]
theorem bun_congr {R R' : Nat → Rows} {es : List Ent} (h : ∀ e ∈ es, ∀ d ∈ e.2, R d = R' d) : bunRows R es = bunRows R' es := by
  refine flat_congr fun e he => ?_
  show (prod (e.2.map R)).map (e.1 :: ·) = (prod (e.2.map R')).map (e.1 :: ·)
  rw [List.map_congr_left fun d hd => h e he d hd]
/-- the rows do not hang on the depth, where it is enough -/
theorem rf_stable (g : GoodB ps B) : ∀ (k n : Nat) (b : BunK κ), B[n]? = some b → rankP ps b.1 ≤ k → ∀ i j, k ≤ i → k ≤ j → rf B i n = rf B j n := by
  intro k
  induction k with
  | zero =>
    intro n b hb hr
    obtain ⟨o, ho⟩ := order_names (g.col n b hb)
    have := (rank_pos g.gp ho).1
    omega
  | succ k ih =>
    intro n b hb hr i j hi hj
    obtain ⟨i, rfl⟩ : ∃ i', i = i' + 1 := ⟨i - 1, by omega⟩
    obtain ⟨j, rfl⟩ : ∃ j', j = j' + 1 := ⟨j - 1, by omega⟩
    rw [rf_succ hb, rf_succ hb]
    refine bun_congr fun e he d hd => ?_
    obtain ⟨q, b', hq, hb', rfl⟩ := (g.parts n b hb e he).mem hd
    have := (rank_kid g.gp hq).1
    exact ih d b' hb' (by omega) i j (by omega) (by omega)
theorem rank_le (g : GoodB ps B) {n : Nat} {b : BunK κ} (hb : B[n]? = some b) : 1 ≤ rankP ps b.1 ∧ rankP ps b.1 ≤ 8 := by
  obtain ⟨o, ho⟩ := order_names (g.col n b hb)
  exact rank_pos g.gp ho
theorem RR_eq (g : GoodB ps B) {n : Nat} {b : BunK κ} (hb : B[n]? = some b) : RR B n = bunRows (RR B) b.2 := by
  have r := rank_le g hb
  have e : RR B n = rf B 9 n := rf_stable g 8 n b hb r.2 8 9 (by omega) (by omega)
  rw [e, rf_succ hb]
  rfl
def wid (ps : Prs κ) (c : κ) : Nat := (ben ps 8 c).length
def wids (ps : Prs κ) (o : Option κ) : Nat := ((kidsOf ps o).map (wid ps)).sum
theorem flat_len {α β : Type} (f : α → List β) : ∀ l : List α, (l.flatMap f).length = (l.map fun x => (f x).length).sum
  | [] => rfl
  | a :: l => by rw [List.flatMap_cons, List.length_append, flat_len f l, List.map_cons, List.sum_cons]
theorem wid_eq (g : GoodP ps) {c : κ} (hc : ∃ o, (c, o) ∈ ps) : wid ps c = wids ps (some c) + 1 := by
  unfold wid wids
  rw [ben_eq g hc, List.length_cons, flat_len]
  rfl
theorem order_len : (order ps).length = wids ps none := flat_len _ _
/-- the width of a bunch -/
def wb (ps : Prs κ) (B : List (BunK κ)) (n : Nat) : Nat := match B[n]? with
  | some b => wid ps b.1
  | none => 0
theorem wb_eq {n : Nat} {b : BunK κ} (h : B[n]? = some b) : wb ps B n = wid ps b.1 := by unfold wb; rw [h]
theorem PartsOk.wids {o : Option κ} {ds : List Nat} (h : PartsOk ps B o ds) : ds.map (wb ps B) = (kidsOf ps o).map (wid ps) := by
  apply List.ext_getElem?
  intro i
  rw [List.getElem?_map, List.getElem?_map]
  cases e : ds[i]? with
  | none =>
    have : (kidsOf ps o)[i]? = none := by
      rw [List.getElem?_eq_none_iff] at e ⊢
      have := h.1
      omega
    rw [this]
    rfl
  | some d =>
    obtain ⟨k, b, h1, h2, rfl⟩ := h.at e
    rw [h1]
    show some _ = some _
    rw [wb_eq h2]
theorem PartsOk.sum {o : Option κ} {ds : List Nat} (h : PartsOk ps B o ds) : (ds.map (wb ps B)).sum = Fb.wids ps o := by
  rw [h.wids]
  rfl
/-- rising, of one width -/
theorem RR_good (g : GoodB ps B) : ∀ (k n : Nat) (b : BunK κ), B[n]? = some b → rankP ps b.1 ≤ k → Up (RR B n) ∧ Wd (wb ps B n) (RR B n) := by
  intro k
  induction k with
  | zero =>
    intro n b hb hr
    have := (rank_le g hb).1
    omega
  | succ k ih =>
    intro n b hb hr
    have hp : ∀ e ∈ b.2, Up (prod (e.2.map (RR B))) ∧ Wd (Fb.wids ps (some b.1)) (prod (e.2.map (RR B))) := fun e he => by
      have q := up_prod (f := RR B) (g := wb ps B) (ps := e.2) fun d hd => by
        obtain ⟨q, b', hq, hb', rfl⟩ := (g.parts n b hb e he).mem hd
        have := (rank_kid g.gp hq).1
        exact ih d b' hb' (by omega)
      rw [(g.parts n b hb e he).sum] at q
      exact q
    rw [RR_eq g hb, wb_eq hb, wid_eq g.gp (order_names (g.col n b hb))]
    exact ⟨up_bun (g.up n b hb) fun e he => (hp e he).1, wd_bun fun e he => (hp e he).2⟩
theorem RR_up (g : GoodB ps B) {n : Nat} {b : BunK κ} (hb : B[n]? = some b) : Up (RR B n) := (RR_good g 8 n b hb (rank_le g hb).2).1
theorem RR_wd (g : GoodB ps B) {n : Nat} {b : BunK κ} (hb : B[n]? = some b) : Wd (wid ps b.1) (RR B n) := by
  have q := (RR_good g 8 n b hb (rank_le g hb).2).2
  rw [wb_eq hb] at q
  exact q
theorem prod_good (g : GoodB ps B) {o : Option κ} {ds : List Nat} (h : PartsOk ps B o ds) : Up (prod (ds.map (RR B))) ∧ Wd (Fb.wids ps o) (prod (ds.map (RR B))) := by
  have q := up_prod (f := RR B) (g := wb ps B) (ps := ds) fun d hd => by
    obtain ⟨q, b', hq, hb', rfl⟩ := h.mem hd
    exact RR_good g 8 d b' hb' (rank_le g hb').2
  rw [h.sum] at q
  exact q
/-- how many rows a bunch has -/
def cnt (B : List (BunK κ)) (n : Nat) : Nat := (RR B n).length
theorem prod_len (B : List (BunK κ)) (ds : List Nat) : (prod (ds.map (RR B))).length = prodN (cnt B) ds := len_prod (RR B) ds
theorem prodN_pow {c v : Nat → Nat} : ∀ {ds : List Nat}, (∀ d ∈ ds, c d ≤ 13 ^ v d) → prodN c ds ≤ 13 ^ (ds.map v).sum
  | [], _ => by simp [prodN]
  | d :: ds, h => by
    rw [prodN_cons, List.map_cons, List.sum_cons, Nat.pow_add]
    exact Nat.mul_le_mul (h d List.mem_cons_self) (prodN_pow fun x hx => h x (List.mem_cons_of_mem _ hx))
theorem prodN_pos {c : Nat → Nat} : ∀ {ds : List Nat}, (∀ d ∈ ds, 1 ≤ c d) → 1 ≤ prodN c ds
  | [], _ => Nat.le_refl 1
  | d :: ds, h => by
    rw [prodN_cons]
    exact Nat.mul_pos (h d List.mem_cons_self) (prodN_pos fun x hx => h x (List.mem_cons_of_mem _ hx))
theorem bun_len {R : Nat → Rows} {M : Nat} : ∀ {es : List Ent}, (∀ e ∈ es, (prod (e.2.map R)).length ≤ M) → (bunRows R es).length ≤ es.length * M
  | [], _ => by simp [bun_nil]
  | e :: es, h => by
    rw [bun_cons, List.length_append, len_ent, List.length_cons, Nat.succ_mul]
    have := h e List.mem_cons_self
    have := bun_len fun x hx => h x (List.mem_cons_of_mem _ hx)
    omega
theorem cnt_good (g : GoodB ps B) : ∀ (k n : Nat) (b : BunK κ), B[n]? = some b → rankP ps b.1 ≤ k → 1 ≤ cnt B n ∧ cnt B n ≤ 13 ^ wb ps B n := by
  intro k
  induction k with
  | zero =>
    intro n b hb hr
    have := (rank_le g hb).1
    omega
  | succ k ih =>
    intro n b hb hr
    have hp : ∀ e ∈ b.2, 1 ≤ prodN (cnt B) e.2 ∧ prodN (cnt B) e.2 ≤ 13 ^ Fb.wids ps (some b.1) := fun e he => by
      have hh : ∀ d ∈ e.2, 1 ≤ cnt B d ∧ cnt B d ≤ 13 ^ wb ps B d := fun d hd => by
        obtain ⟨q, b', hq, hb', rfl⟩ := (g.parts n b hb e he).mem hd
        have := (rank_kid g.gp hq).1
        exact ih d b' hb' (by omega)
      refine ⟨prodN_pos fun d hd => (hh d hd).1, ?_⟩
      rw [← (g.parts n b hb e he).sum]
      exact prodN_pow fun d hd => (hh d hd).2
    unfold cnt
    rw [RR_eq g hb]
    constructor
    · cases eb : b.2 with
      | nil => exact absurd eb (g.ne n b hb)
      | cons e es =>
        rw [bun_cons, List.length_append, len_ent, prod_len]
        have := (hp e (by rw [eb]; exact List.mem_cons_self)).1
        omega
    · rw [wb_eq hb, wid_eq g.gp (order_names (g.col n b hb)), Nat.pow_succ, Nat.mul_comm]
      refine Nat.le_trans (bun_len (M := 13 ^ Fb.wids ps (some b.1)) fun e he => ?_) (Nat.mul_le_mul_right _ (g.le n b hb))
      rw [prod_len]
      exact (hp e he).2
theorem prodN_good (g : GoodB ps B) {o : Option κ} {ds : List Nat} (h : PartsOk ps B o ds) : 1 ≤ prodN (cnt B) ds ∧ prodN (cnt B) ds ≤ 13 ^ Fb.wids ps o := by
  have hh : ∀ d ∈ ds, 1 ≤ cnt B d ∧ cnt B d ≤ 13 ^ wb ps B d := fun d hd => by
    obtain ⟨q, b', hq, hb', rfl⟩ := h.mem hd
    exact cnt_good g 8 d b' hb' (rank_le g hb').2
  refine ⟨prodN_pos fun d hd => (hh d hd).1, ?_⟩
  rw [← h.sum]
  exact prodN_pow fun d hd => (hh d hd).2
theorem wid_le (g : GoodP ps) {c : κ} (hc : ∃ o, (c, o) ∈ ps) : wid ps c ≤ 8 := by
  have h := nodup_le (M := ps.map (·.1)) (ben_nodup g 8 c) fun x hx => by
    obtain ⟨o, ho⟩ := ben_names 8 hc hx
    exact List.mem_map.mpr ⟨_, ho, rfl⟩
  have := g.le
  rw [List.length_map] at h
  unfold wid
  omega
theorem pow13 {a : Nat} (h : a ≤ 8) : 13 ^ a ≤ 815730721 := Nat.le_trans (Nat.pow_le_pow_right (by decide) h) (by decide)
theorem cnt_le (g : GoodB ps B) {n : Nat} {b : BunK κ} (hb : B[n]? = some b) : 1 ≤ cnt B n ∧ cnt B n ≤ 815730721 := by
  have q := cnt_good g 8 n b hb (rank_le g hb).2
  rw [wb_eq hb] at q
  exact ⟨q.1, Nat.le_trans q.2 (pow13 (wid_le g.gp (order_names (g.col n b hb))))⟩
theorem wids_le (g : GoodP ps) {o : Option κ} (ho : ∀ c, o = some c → ∃ q, (c, q) ∈ ps) : Fb.wids ps o ≤ 8 := by
  cases o with
  | none => rw [← order_len]; exact order_le g
  | some c =>
    have h1 := wid_le g (ho c rfl)
    have h2 := wid_eq g (ho c rfl)
    omega
theorem prodN_le (g : GoodB ps B) {o : Option κ} (ho : ∀ c, o = some c → ∃ q, (c, q) ∈ ps) {ds : List Nat} (h : PartsOk ps B o ds) : 1 ≤ prodN (cnt B) ds ∧ prodN (cnt B) ds ≤ 815730721 := by
  have q := prodN_good g h
  exact ⟨q.1, Nat.le_trans q.2 (pow13 (wids_le g.gp ho))⟩
/-! ### bunches carried over to others by a map of their numbers -/
theorem rf_map {B' : List (BunK κ)} (f : Nat → Nat) (V : Nat → Prop)
    (h : ∀ n, V n → ∃ b, B[n]? = some b ∧ (∀ e ∈ b.2, ∀ d ∈ e.2, V d) ∧ ∃ c, B'[f n]? = some (c, b.2.map fun e => (e.1, e.2.map f))) : ∀ k n, V n → rf B' k (f n) = rf B k n
  | 0, _, _ => rfl
  | k + 1, n, hn => by
    obtain ⟨b, h1, h2, c, h3⟩ := h n hn
    rw [rf_succ h1, rf_succ h3]
    show (b.2.map fun e => (e.1, e.2.map f)).flatMap (entRows (rf B' k)) = b.2.flatMap (entRows (rf B k))
    rw [List.flatMap_map]
    refine flat_congr fun e he => ?_
    show (prod ((e.2.map f).map (rf B' k))).map (e.1 :: ·) = (prod (e.2.map (rf B k))).map (e.1 :: ·)
    rw [List.map_map]
    rw [List.map_congr_left fun d hd => (show (rf B' k ∘ f) d = rf B k d from rf_map f V h k d (h2 e he d hd))]
theorem RR_map {B' : List (BunK κ)} (f : Nat → Nat) (V : Nat → Prop)
    (h : ∀ n, V n → ∃ b, B[n]? = some b ∧ (∀ e ∈ b.2, ∀ d ∈ e.2, V d) ∧ ∃ c, B'[f n]? = some (c, b.2.map fun e => (e.1, e.2.map f))) {n : Nat} (hn : V n) : RR B' (f n) = RR B n := rf_map f V h 8 n hn
end
end Fb
set_option Elab.async false
set_option linter.all false
set_option maxRecDepth 100000
set_option maxHeartbeats 4000000
/-! The text by places, the names of each def, and what the top has left (printed by gentxt.py). -/
namespace Fb
open PySem PySem.Spec PyProof.Rows L2
def topS (i : Nat) : Stmt := PySem.Challenge.pw_foldbough_k51_whole_numbers_of_great_fol.main.body.getD i (.Pass ⟨0, 0, 0, 0⟩)
abbrev s_is_name : Stmt := topS 12
abbrev N_is_name : List Str := ["thing"]
theorem sc_is_name : FnScope N_is_name ["thing"] (defScope s_is_name) := ⟨rfl, rfl, rfl, by decide +kernel, rfl, by decide +kernel, by decide +kernel⟩
abbrev s_is_value : Stmt := topS 13
abbrev N_is_value : List Str := ["thing"]
theorem sc_is_value : FnScope N_is_value ["thing"] (defScope s_is_value) := ⟨rfl, rfl, rfl, by decide +kernel, rfl, by decide +kernel, by decide +kernel⟩
abbrev s_is_row : Stmt := topS 14
abbrev N_is_row : List Str := ["thing", "many", "one"]
theorem sc_is_row : FnScope N_is_row ["thing", "many"] (defScope s_is_row) := ⟨rfl, rfl, rfl, by decide +kernel, rfl, by decide +kernel, by decide +kernel⟩
abbrev s_want_row : Stmt := topS 15
abbrev N_want_row : List Str := ["thing", "many", "at"]
theorem sc_want_row : FnScope N_want_row ["thing", "many", "at"] (defScope s_want_row) := ⟨rfl, rfl, rfl, by decide +kernel, rfl, by decide +kernel, by decide +kernel⟩
abbrev s_product_at : Stmt := topS 18
abbrev N_product_at : List Str := ["numbers", "parts", "found", "part"]
theorem sc_product_at : FnScope N_product_at ["numbers", "parts"] (defScope s_product_at) := ⟨rfl, rfl, rfl, by decide +kernel, rfl, by decide +kernel, by decide +kernel⟩
abbrev s_by_columns : Stmt := topS 19
abbrev N_by_columns : List Str := ["fold", "found", "column", "number", "bunch"]
theorem sc_by_columns : FnScope N_by_columns ["fold"] (defScope s_by_columns) := ⟨rfl, rfl, rfl, by decide +kernel, rfl, by decide +kernel, by decide +kernel⟩
abbrev s_counts_of : Stmt := topS 20
abbrev N_counts_of : List Str := ["fold", "found", "number", "value", "parts"]
theorem sc_counts_of : FnScope N_counts_of ["fold"] (defScope s_counts_of) := ⟨rfl, rfl, rfl, by decide +kernel, rfl, by decide +kernel, by decide +kernel⟩
abbrev s_parts_at : Stmt := topS 21
abbrev N_parts_at : List Str := ["fold", "number", "value", "one", "parts"]
theorem sc_parts_at : FnScope N_parts_at ["fold", "number", "value"] (defScope s_parts_at) := ⟨rfl, rfl, rfl, by decide +kernel, rfl, by decide +kernel, by decide +kernel⟩
abbrev s_holds : Stmt := topS 22
abbrev N_holds : List Str := ["fold", "number", "values", "parts", "part"]
theorem sc_holds : FnScope N_holds ["fold", "number", "values"] (defScope s_holds) := ⟨rfl, rfl, rfl, by decide +kernel, rfl, by decide +kernel, by decide +kernel⟩
abbrev s_visit : Stmt := topS 24
abbrev N_visit : List Str := ["held", "number", "places", "order", "value", "parts", "part"]
theorem sc_visit : FnScope N_visit ["held", "number", "places", "order"] (defScope s_visit) := ⟨rfl, rfl, rfl, by decide +kernel, rfl, by decide +kernel, by decide +kernel⟩
abbrev s_moved : Stmt := topS 25
abbrev N_moved : List Str := ["parts", "places", "part"]
theorem sc_moved : FnScope N_moved ["parts", "places"] (defScope s_moved) := ⟨rfl, rfl, rfl, by decide +kernel, rfl, by decide +kernel, by decide +kernel⟩
abbrev s_parts_row : Stmt := topS 27
abbrev N_parts_row : List Str := ["fold", "many", "parts", "number", "found", "at", "part", "behind"]
theorem sc_parts_row : FnScope N_parts_row ["fold", "many", "parts", "number"] (defScope s_parts_row) := ⟨rfl, rfl, rfl, by decide +kernel, rfl, by decide +kernel, by decide +kernel⟩
abbrev s_bunch_row : Stmt := topS 28
abbrev N_bunch_row : List Str := ["fold", "many", "bunch", "number", "value", "parts", "block"]
theorem sc_bunch_row : FnScope N_bunch_row ["fold", "many", "bunch", "number"] (defScope s_bunch_row) := ⟨rfl, rfl, rfl, by decide +kernel, rfl, by decide +kernel, by decide +kernel⟩
abbrev s_row_at : Stmt := topS 29
abbrev N_row_at : List Str := ["fold", "number"]
theorem sc_row_at : FnScope N_row_at ["fold", "number"] (defScope s_row_at) := ⟨rfl, rfl, rfl, by decide +kernel, rfl, by decide +kernel, by decide +kernel⟩
abbrev s_place_of : Stmt := topS 31
abbrev N_place_of : List Str := ["fold", "row", "number", "there"]
theorem sc_place_of : FnScope N_place_of ["fold", "row"] (defScope s_place_of) := ⟨rfl, rfl, rfl, by decide +kernel, rfl, by decide +kernel, by decide +kernel⟩
abbrev s_first_from : Stmt := topS 32
abbrev N_first_from : List Str := ["fold", "row", "number", "there"]
theorem sc_first_from : FnScope N_first_from ["fold", "row"] (defScope s_first_from) := ⟨rfl, rfl, rfl, by decide +kernel, rfl, by decide +kernel, by decide +kernel⟩
abbrev s_between : Stmt := topS 33
abbrev N_between : List Str := ["fold", "low", "high", "finder", "first", "low_there", "last", "high_there"]
theorem sc_between : FnScope N_between ["fold", "low", "high"] (defScope s_between) := ⟨rfl, rfl, rfl, by decide +kernel, rfl, by decide +kernel, by decide +kernel⟩
abbrev s_is_part : Stmt := topS 35
abbrev N_is_part : List Str := ["thing", "columns", "many", "bunches", "number", "column", "bunch"]
theorem sc_is_part : FnScope N_is_part ["thing", "columns", "many", "bunches"] (defScope s_is_part) := ⟨rfl, rfl, rfl, by decide +kernel, rfl, by decide +kernel, by decide +kernel⟩
abbrev s_is_bunch : Stmt := topS 36
abbrev N_is_bunch : List Str := ["tree", "thing", "bunches", "children", "last", "entry"]
theorem sc_is_bunch : FnScope N_is_bunch ["tree", "thing", "bunches"] (defScope s_is_bunch) := ⟨rfl, rfl, rfl, by decide +kernel, rfl, by decide +kernel, by decide +kernel⟩
abbrev s_fold_of : Stmt := topS 37
abbrev N_fold_of : List Str := ["tree", "bunches", "tops", "at", "bunch", "heads", "pool", "found", "column", "name", "entries", "value", "parts"]
theorem sc_fold_of : FnScope N_fold_of ["tree", "bunches", "tops"] (defScope s_fold_of) := ⟨rfl, rfl, rfl, by decide +kernel, rfl, by decide +kernel, by decide +kernel⟩
abbrev s_at_places : Stmt := topS 38
abbrev N_at_places : List Str := ["found", "parts", "part"]
theorem sc_at_places : FnScope N_at_places ["found", "parts"] (defScope s_at_places) := ⟨rfl, rfl, rfl, by decide +kernel, rfl, by decide +kernel, by decide +kernel⟩
abbrev s_is_pair : Stmt := topS 40
abbrev N_is_pair : List Str := ["thing", "overs"]
theorem sc_is_pair : FnScope N_is_pair ["thing", "overs"] (defScope s_is_pair) := ⟨rfl, rfl, rfl, by decide +kernel, rfl, by decide +kernel, by decide +kernel⟩
abbrev s_order_from : Stmt := topS 41
abbrev N_order_from : List Str := ["kids", "column", "found", "child"]
theorem sc_order_from : FnScope N_order_from ["kids", "column"] (defScope s_order_from) := ⟨rfl, rfl, rfl, by decide +kernel, rfl, by decide +kernel, by decide +kernel⟩
abbrev s__law_cell_at : Stmt := topS 47
abbrev N__law_cell_at : List Str := ["_law_script", "_law_k"]
theorem sc__law_cell_at : FnScope N__law_cell_at ["_law_script", "_law_k"] (defScope s__law_cell_at) := ⟨rfl, rfl, rfl, by decide +kernel, rfl, by decide +kernel, by decide +kernel⟩
abbrev s__law_well : Stmt := topS 48
abbrev N__law_well : List Str := ["_law_cell"]
theorem sc__law_well : FnScope N__law_well ["_law_cell"] (defScope s__law_well) := ⟨rfl, rfl, rfl, by decide +kernel, rfl, by decide +kernel, by decide +kernel⟩
abbrev s__law_draw : Stmt := topS 49
abbrev N__law_draw : List Str := ["_law_well_here", "_law_many", "_law_digit", "_law_number_here"]
theorem sc__law_draw : FnScope N__law_draw ["_law_well_here", "_law_many"] (defScope s__law_draw) := ⟨rfl, rfl, rfl, by decide +kernel, rfl, by decide +kernel, by decide +kernel⟩
abbrev s__law_one : Stmt := topS 50
abbrev N__law_one : List Str := ["_law_well_here", "_law_some_here"]
theorem sc__law_one : FnScope N__law_one ["_law_well_here", "_law_some_here"] (defScope s__law_one) := ⟨rfl, rfl, rfl, by decide +kernel, rfl, by decide +kernel, by decide +kernel⟩
abbrev s__law_names : Stmt := topS 51
abbrev N__law_names : List Str := ["_law_well_here", "_law_many", "_law_names_here", "_law_first", "_law_k", "_law_stem", "_law_j"]
theorem sc__law_names : FnScope N__law_names ["_law_well_here", "_law_many"] (defScope s__law_names) := ⟨rfl, rfl, rfl, by decide +kernel, rfl, by decide +kernel, by decide +kernel⟩
abbrev s__law_pairs : Stmt := topS 52
abbrev N__law_pairs : List Str := ["_law_well_here", "_law_many", "_law_names_here", "_law_pairs_here", "_law_at", "_law_name"]
theorem sc__law_pairs : FnScope N__law_pairs ["_law_well_here", "_law_many"] (defScope s__law_pairs) := ⟨rfl, rfl, rfl, by decide +kernel, rfl, by decide +kernel, by decide +kernel⟩
abbrev s__law_beneath : Stmt := topS 53
abbrev N__law_beneath : List Str := ["_law_pairs_here", "_law_column", "_law_found", "_law_name", "_law_over"]
theorem sc__law_beneath : FnScope N__law_beneath ["_law_pairs_here", "_law_column"] (defScope s__law_beneath) := ⟨rfl, rfl, rfl, by decide +kernel, rfl, by decide +kernel, by decide +kernel⟩
abbrev s__law_some : Stmt := topS 54
abbrev N__law_some : List Str := ["_law_well_here", "_law_many", "_law_by_one", "_law_k"]
theorem sc__law_some : FnScope N__law_some ["_law_well_here", "_law_many"] (defScope s__law_some) := ⟨rfl, rfl, rfl, by decide +kernel, rfl, by decide +kernel, by decide +kernel⟩
abbrev s__law_great : Stmt := topS 55
abbrev N__law_great : List Str := ["_law_well_here", "_law_pairs_here", "_law_order", "_law_bunches", "_law_column", "_law_kids", "_law_some_here", "_law_k", "_law_values", "_law_entries", "_law_value", "_law_tops", "_law_name", "_law_over", "_law_kid", "_law_at", "_law_bunch", "_law_numbers", "_law_top"]
theorem sc__law_great : FnScope N__law_great ["_law_well_here", "_law_pairs_here"] (defScope s__law_great) := ⟨rfl, rfl, rfl, by decide +kernel, rfl, by decide +kernel, by decide +kernel⟩
abbrev s__law_counts : Stmt := topS 56
abbrev N__law_counts : List Str := ["_law_bunches", "_law_found", "_law_column", "_law_entries", "_law_value", "_law_parts"]
theorem sc__law_counts : FnScope N__law_counts ["_law_bunches"] (defScope s__law_counts) := ⟨rfl, rfl, rfl, by decide +kernel, rfl, by decide +kernel, by decide +kernel⟩
abbrev s__law_product : Stmt := topS 57
abbrev N__law_product : List Str := ["_law_numbers", "_law_parts", "_law_many", "_law_part"]
theorem sc__law_product : FnScope N__law_product ["_law_numbers", "_law_parts"] (defScope s__law_product) := ⟨rfl, rfl, rfl, by decide +kernel, rfl, by decide +kernel, by decide +kernel⟩
abbrev s__law_number : Stmt := topS 58
abbrev N__law_number : List Str := ["_law_bunches", "_law_many", "_law_parts", "_law_row", "_law_number_here", "_law_part", "_law_block", "_law_value", "_law_behind", "_law_inner", "_law_its"]
theorem sc__law_number : FnScope N__law_number ["_law_bunches", "_law_many", "_law_parts", "_law_row"] (defScope s__law_number) := ⟨rfl, rfl, rfl, by decide +kernel, rfl, by decide +kernel, by decide +kernel⟩
abbrev s__law_some_row : Stmt := topS 59
abbrev N__law_some_row : List Str := ["_law_well_here", "_law_bunches", "_law_parts", "_law_row", "_law_part", "_law_value", "_law_behind"]
theorem sc__law_some_row : FnScope N__law_some_row ["_law_well_here", "_law_bunches", "_law_parts"] (defScope s__law_some_row) := ⟨rfl, rfl, rfl, by decide +kernel, rfl, by decide +kernel, by decide +kernel⟩
abbrev s__law_next_right : Stmt := topS 60
abbrev N__law_next_right : List Str := ["_law_fold", "_law_number_here", "_law_last", "_law_row", "_law_above", "_law_behind"]
theorem sc__law_next_right : FnScope N__law_next_right ["_law_fold", "_law_number_here", "_law_last"] (defScope s__law_next_right) := ⟨rfl, rfl, rfl, by decide +kernel, rfl, by decide +kernel, by decide +kernel⟩
abbrev s__law_walked : Stmt := topS 61
abbrev N__law_walked : List Str := ["_law_fold", "_law_number_here", "_law_other", "_law_walker", "_law_row"]
theorem sc__law_walked : FnScope N__law_walked ["_law_fold", "_law_number_here", "_law_other"] (defScope s__law_walked) := ⟨rfl, rfl, rfl, by decide +kernel, rfl, by decide +kernel, by decide +kernel⟩
abbrev s_law : Stmt := topS 62
abbrev N_law : List Str := ["_law_script", "_law_well_here", "_law_pairs_here", "_law_bunches", "_law_tops", "_law_fold", "_law_many", "_law_last", "_law_numbers", "_law_cell", "_law_teller", "_law_row", "_law_number_here", "_law_other", "_law_low", "_law_high"]
theorem sc_law : FnScope N_law ["_law_script"] (defScope s_law) := ⟨rfl, rfl, rfl, by decide +kernel, rfl, by decide +kernel, by decide +kernel⟩
abbrev s_Fold_init : Stmt := inClass (topS 17) 0
abbrev N_Fold_init : List Str := ["self", "tree", "bunches", "tops"]
theorem sc_Fold_init : FnScope N_Fold_init ["self", "tree", "bunches", "tops"] (defScope s_Fold_init) := ⟨rfl, rfl, rfl, by decide +kernel, rfl, by decide +kernel, by decide +kernel⟩
abbrev s_Fold_tree : Stmt := inClass (topS 17) 4
abbrev N_Fold_tree : List Str := ["self"]
theorem sc_Fold_tree : FnScope N_Fold_tree ["self"] (defScope s_Fold_tree) := ⟨rfl, rfl, rfl, by decide +kernel, rfl, by decide +kernel, by decide +kernel⟩
abbrev s_Fold_tops : Stmt := inClass (topS 17) 6
abbrev N_Fold_tops : List Str := ["self"]
theorem sc_Fold_tops : FnScope N_Fold_tops ["self"] (defScope s_Fold_tops) := ⟨rfl, rfl, rfl, by decide +kernel, rfl, by decide +kernel, by decide +kernel⟩
abbrev s_Fold_count : Stmt := inClass (topS 17) 7
abbrev N_Fold_count : List Str := ["self"]
theorem sc_Fold_count : FnScope N_Fold_count ["self"] (defScope s_Fold_count) := ⟨rfl, rfl, rfl, by decide +kernel, rfl, by decide +kernel, by decide +kernel⟩
abbrev s_Fold_has : Stmt := inClass (topS 17) 9
abbrev N_Fold_has : List Str := ["self", "row", "values", "number"]
theorem sc_Fold_has : FnScope N_Fold_has ["self", "row"] (defScope s_Fold_has) := ⟨rfl, rfl, rfl, by decide +kernel, rfl, by decide +kernel, by decide +kernel⟩
abbrev s_Pool_init : Stmt := inClass (topS 23) 0
abbrev N_Pool_init : List Str := ["self", "tree"]
theorem sc_Pool_init : FnScope N_Pool_init ["self", "tree"] (defScope s_Pool_init) := ⟨rfl, rfl, rfl, by decide +kernel, rfl, by decide +kernel, by decide +kernel⟩
abbrev s_Pool_put : Stmt := inClass (topS 23) 1
abbrev N_Pool_put : List Str := ["self", "column", "entries", "alive", "key", "value", "parts"]
theorem sc_Pool_put : FnScope N_Pool_put ["self", "column", "entries"] (defScope s_Pool_put) := ⟨rfl, rfl, rfl, by decide +kernel, rfl, by decide +kernel, by decide +kernel⟩
abbrev s_Pool_fold : Stmt := inClass (topS 23) 2
abbrev N_Pool_fold : List Str := ["self", "tops", "places", "order", "top", "bunches", "number", "column", "entries", "value", "parts"]
theorem sc_Pool_fold : FnScope N_Pool_fold ["self", "tops"] (defScope s_Pool_fold) := ⟨rfl, rfl, rfl, by decide +kernel, rfl, by decide +kernel, by decide +kernel⟩
abbrev s_Finder_init : Stmt := inClass (topS 30) 0
abbrev N_Finder_init : List Str := ["self", "fold"]
theorem sc_Finder_init : FnScope N_Finder_init ["self", "fold"] (defScope s_Finder_init) := ⟨rfl, rfl, rfl, by decide +kernel, rfl, by decide +kernel, by decide +kernel⟩
abbrev s_Finder_below_parts : Stmt := inClass (topS 30) 1
abbrev N_Finder_below_parts : List Str := ["self", "parts", "bound", "below", "columns", "at", "place", "part", "wide", "fewer", "there"]
theorem sc_Finder_below_parts : FnScope N_Finder_below_parts ["self", "parts", "bound"] (defScope s_Finder_below_parts) := ⟨rfl, rfl, rfl, by decide +kernel, rfl, by decide +kernel, by decide +kernel⟩
abbrev s_Finder_below_bunch : Stmt := inClass (topS 30) 2
abbrev N_Finder_below_bunch : List Str := ["self", "bunch", "bound", "below", "value", "parts", "fewer", "there"]
theorem sc_Finder_below_bunch : FnScope N_Finder_below_bunch ["self", "bunch", "bound"] (defScope s_Finder_below_bunch) := ⟨rfl, rfl, rfl, by decide +kernel, rfl, by decide +kernel, by decide +kernel⟩
abbrev s_Finder_below : Stmt := inClass (topS 30) 3
abbrev N_Finder_below : List Str := ["self", "bound"]
theorem sc_Finder_below : FnScope N_Finder_below ["self", "bound"] (defScope s_Finder_below) := ⟨rfl, rfl, rfl, by decide +kernel, rfl, by decide +kernel, by decide +kernel⟩
abbrev s_Tree_init : Stmt := inClass (topS 42) 0
abbrev N_Tree_init : List Str := ["self", "pairs", "at", "pair", "column", "over"]
theorem sc_Tree_init : FnScope N_Tree_init ["self", "pairs"] (defScope s_Tree_init) := ⟨rfl, rfl, rfl, by decide +kernel, rfl, by decide +kernel, by decide +kernel⟩
abbrev s_Tree_len : Stmt := inClass (topS 42) 1
abbrev N_Tree_len : List Str := ["self"]
theorem sc_Tree_len : FnScope N_Tree_len ["self"] (defScope s_Tree_len) := ⟨rfl, rfl, rfl, by decide +kernel, rfl, by decide +kernel, by decide +kernel⟩
abbrev s_Tree_want : Stmt := inClass (topS 42) 4
abbrev N_Tree_want : List Str := ["self", "column"]
theorem sc_Tree_want : FnScope N_Tree_want ["self", "column"] (defScope s_Tree_want) := ⟨rfl, rfl, rfl, by decide +kernel, rfl, by decide +kernel, by decide +kernel⟩
abbrev s_Tree_columns : Stmt := inClass (topS 42) 5
abbrev N_Tree_columns : List Str := ["self"]
theorem sc_Tree_columns : FnScope N_Tree_columns ["self"] (defScope s_Tree_columns) := ⟨rfl, rfl, rfl, by decide +kernel, rfl, by decide +kernel, by decide +kernel⟩
abbrev s_Tree_beneath : Stmt := inClass (topS 42) 9
abbrev N_Tree_beneath : List Str := ["self", "column"]
theorem sc_Tree_beneath : FnScope N_Tree_beneath ["self", "column"] (defScope s_Tree_beneath) := ⟨rfl, rfl, rfl, by decide +kernel, rfl, by decide +kernel, by decide +kernel⟩
abbrev s_Tree_children : Stmt := inClass (topS 42) 10
abbrev N_Tree_children : List Str := ["self", "column"]
theorem sc_Tree_children : FnScope N_Tree_children ["self", "column"] (defScope s_Tree_children) := ⟨rfl, rfl, rfl, by decide +kernel, rfl, by decide +kernel, by decide +kernel⟩
abbrev s_Walker_init : Stmt := inClass (topS 45) 0
abbrev N_Walker_init : List Str := ["self", "fold"]
theorem sc_Walker_init : FnScope N_Walker_init ["self", "fold"] (defScope s_Walker_init) := ⟨rfl, rfl, rfl, by decide +kernel, rfl, by decide +kernel, by decide +kernel⟩
abbrev s_Walker_row : Stmt := inClass (topS 45) 1
abbrev N_Walker_row : List Str := ["self"]
theorem sc_Walker_row : FnScope N_Walker_row ["self"] (defScope s_Walker_row) := ⟨rfl, rfl, rfl, by decide +kernel, rfl, by decide +kernel, by decide +kernel⟩
abbrev s_Walker_where : Stmt := inClass (topS 45) 2
abbrev N_Walker_where : List Str := ["self"]
theorem sc_Walker_where : FnScope N_Walker_where ["self"] (defScope s_Walker_where) := ⟨rfl, rfl, rfl, by decide +kernel, rfl, by decide +kernel, by decide +kernel⟩
abbrev s_Walker_stand_at : Stmt := inClass (topS 45) 3
abbrev N_Walker_stand_at : List Str := ["self", "number"]
theorem sc_Walker_stand_at : FnScope N_Walker_stand_at ["self", "number"] (defScope s_Walker_stand_at) := ⟨rfl, rfl, rfl, by decide +kernel, rfl, by decide +kernel, by decide +kernel⟩
abbrev s_Walker_step : Stmt := inClass (topS 45) 4
abbrev N_Walker_step : List Str := ["self", "many"]
theorem sc_Walker_step : FnScope N_Walker_step ["self", "many"] (defScope s_Walker_step) := ⟨rfl, rfl, rfl, by decide +kernel, rfl, by decide +kernel, by decide +kernel⟩
abbrev s_Walker_back : Stmt := inClass (topS 45) 5
abbrev N_Walker_back : List Str := ["self", "many"]
theorem sc_Walker_back : FnScope N_Walker_back ["self", "many"] (defScope s_Walker_back) := ⟨rfl, rfl, rfl, by decide +kernel, rfl, by decide +kernel, by decide +kernel⟩
abbrev s_Walker_to : Stmt := inClass (topS 45) 6
abbrev N_Walker_to : List Str := ["self", "row"]
theorem sc_Walker_to : FnScope N_Walker_to ["self", "row"] (defScope s_Walker_to) := ⟨rfl, rfl, rfl, by decide +kernel, rfl, by decide +kernel, by decide +kernel⟩
/-- what the top has left: defs, classes, built-ins not hidden, constants -/
structure Txt (K : PySem.W.Frag) (mg : Str → Option Value) where
  C_Fold : Addr
  C_Pool : Addr
  C_Finder : Addr
  C_Tree : Addr
  C_Walker : Addr
  f_is_name : Addr
  fd_is_name : FuncData
  F_is_name : Fun K "is_name" "is_name" s_is_name f_is_name fd_is_name
  b_is_name : Binds K fd_is_name ["thing"] []
  m_is_name : mg "is_name" = some (.ref f_is_name)
  f_is_value : Addr
  fd_is_value : FuncData
  F_is_value : Fun K "is_value" "is_value" s_is_value f_is_value fd_is_value
  b_is_value : Binds K fd_is_value ["thing"] []
  m_is_value : mg "is_value" = some (.ref f_is_value)
  f_is_row : Addr
  fd_is_row : FuncData
  F_is_row : Fun K "is_row" "is_row" s_is_row f_is_row fd_is_row
  b_is_row : Binds K fd_is_row ["thing", "many"] []
  m_is_row : mg "is_row" = some (.ref f_is_row)
  f_want_row : Addr
  fd_want_row : FuncData
  F_want_row : FunD K "want_row" "want_row" (defArgs s_want_row) (defBody s_want_row) (defScope s_want_row) [.int 0] [] f_want_row fd_want_row
  m_want_row : mg "want_row" = some (.ref f_want_row)
  f_product_at : Addr
  fd_product_at : FuncData
  F_product_at : Fun K "product_at" "product_at" s_product_at f_product_at fd_product_at
  b_product_at : Binds K fd_product_at ["numbers", "parts"] []
  m_product_at : mg "product_at" = some (.ref f_product_at)
  f_by_columns : Addr
  fd_by_columns : FuncData
  F_by_columns : Fun K "by_columns" "by_columns" s_by_columns f_by_columns fd_by_columns
  b_by_columns : Binds K fd_by_columns ["fold"] []
  m_by_columns : mg "by_columns" = some (.ref f_by_columns)
  f_counts_of : Addr
  fd_counts_of : FuncData
  F_counts_of : Fun K "counts_of" "counts_of" s_counts_of f_counts_of fd_counts_of
  b_counts_of : Binds K fd_counts_of ["fold"] []
  m_counts_of : mg "counts_of" = some (.ref f_counts_of)
  f_parts_at : Addr
  fd_parts_at : FuncData
  F_parts_at : Fun K "parts_at" "parts_at" s_parts_at f_parts_at fd_parts_at
  b_parts_at : Binds K fd_parts_at ["fold", "number", "value"] []
  m_parts_at : mg "parts_at" = some (.ref f_parts_at)
  f_holds : Addr
  fd_holds : FuncData
  F_holds : Fun K "holds" "holds" s_holds f_holds fd_holds
  b_holds : Binds K fd_holds ["fold", "number", "values"] []
  m_holds : mg "holds" = some (.ref f_holds)
  f_visit : Addr
  fd_visit : FuncData
  F_visit : Fun K "visit" "visit" s_visit f_visit fd_visit
  b_visit : Binds K fd_visit ["held", "number", "places", "order"] []
  m_visit : mg "visit" = some (.ref f_visit)
  f_moved : Addr
  fd_moved : FuncData
  F_moved : Fun K "moved" "moved" s_moved f_moved fd_moved
  b_moved : Binds K fd_moved ["parts", "places"] []
  m_moved : mg "moved" = some (.ref f_moved)
  f_parts_row : Addr
  fd_parts_row : FuncData
  F_parts_row : Fun K "parts_row" "parts_row" s_parts_row f_parts_row fd_parts_row
  b_parts_row : Binds K fd_parts_row ["fold", "many", "parts", "number"] []
  m_parts_row : mg "parts_row" = some (.ref f_parts_row)
  f_bunch_row : Addr
  fd_bunch_row : FuncData
  F_bunch_row : Fun K "bunch_row" "bunch_row" s_bunch_row f_bunch_row fd_bunch_row
  b_bunch_row : Binds K fd_bunch_row ["fold", "many", "bunch", "number"] []
  m_bunch_row : mg "bunch_row" = some (.ref f_bunch_row)
  f_row_at : Addr
  fd_row_at : FuncData
  F_row_at : Fun K "row_at" "row_at" s_row_at f_row_at fd_row_at
  b_row_at : Binds K fd_row_at ["fold", "number"] []
  m_row_at : mg "row_at" = some (.ref f_row_at)
  f_place_of : Addr
  fd_place_of : FuncData
  F_place_of : Fun K "place_of" "place_of" s_place_of f_place_of fd_place_of
  b_place_of : Binds K fd_place_of ["fold", "row"] []
  m_place_of : mg "place_of" = some (.ref f_place_of)
  f_first_from : Addr
  fd_first_from : FuncData
  F_first_from : Fun K "first_from" "first_from" s_first_from f_first_from fd_first_from
  b_first_from : Binds K fd_first_from ["fold", "row"] []
  m_first_from : mg "first_from" = some (.ref f_first_from)
  f_between : Addr
  fd_between : FuncData
  F_between : Fun K "between" "between" s_between f_between fd_between
  b_between : Binds K fd_between ["fold", "low", "high"] []
  m_between : mg "between" = some (.ref f_between)
  f_is_part : Addr
  fd_is_part : FuncData
  F_is_part : Fun K "is_part" "is_part" s_is_part f_is_part fd_is_part
  b_is_part : Binds K fd_is_part ["thing", "columns", "many", "bunches"] []
  m_is_part : mg "is_part" = some (.ref f_is_part)
  f_is_bunch : Addr
  fd_is_bunch : FuncData
  F_is_bunch : Fun K "is_bunch" "is_bunch" s_is_bunch f_is_bunch fd_is_bunch
  b_is_bunch : Binds K fd_is_bunch ["tree", "thing", "bunches"] []
  m_is_bunch : mg "is_bunch" = some (.ref f_is_bunch)
  f_fold_of : Addr
  fd_fold_of : FuncData
  F_fold_of : Fun K "fold_of" "fold_of" s_fold_of f_fold_of fd_fold_of
  b_fold_of : Binds K fd_fold_of ["tree", "bunches", "tops"] []
  m_fold_of : mg "fold_of" = some (.ref f_fold_of)
  f_at_places : Addr
  fd_at_places : FuncData
  F_at_places : Fun K "at_places" "at_places" s_at_places f_at_places fd_at_places
  b_at_places : Binds K fd_at_places ["found", "parts"] []
  m_at_places : mg "at_places" = some (.ref f_at_places)
  f_is_pair : Addr
  fd_is_pair : FuncData
  F_is_pair : Fun K "is_pair" "is_pair" s_is_pair f_is_pair fd_is_pair
  b_is_pair : Binds K fd_is_pair ["thing", "overs"] []
  m_is_pair : mg "is_pair" = some (.ref f_is_pair)
  f_order_from : Addr
  fd_order_from : FuncData
  F_order_from : Fun K "order_from" "order_from" s_order_from f_order_from fd_order_from
  b_order_from : Binds K fd_order_from ["kids", "column"] []
  m_order_from : mg "order_from" = some (.ref f_order_from)
  f__law_cell_at : Addr
  fd__law_cell_at : FuncData
  F__law_cell_at : Fun K "_law_cell_at" "_law_cell_at" s__law_cell_at f__law_cell_at fd__law_cell_at
  b__law_cell_at : Binds K fd__law_cell_at ["_law_script", "_law_k"] []
  m__law_cell_at : mg "_law_cell_at" = some (.ref f__law_cell_at)
  f__law_well : Addr
  fd__law_well : FuncData
  F__law_well : Fun K "_law_well" "_law_well" s__law_well f__law_well fd__law_well
  b__law_well : Binds K fd__law_well ["_law_cell"] []
  m__law_well : mg "_law_well" = some (.ref f__law_well)
  f__law_draw : Addr
  fd__law_draw : FuncData
  F__law_draw : Fun K "_law_draw" "_law_draw" s__law_draw f__law_draw fd__law_draw
  b__law_draw : Binds K fd__law_draw ["_law_well_here", "_law_many"] []
  m__law_draw : mg "_law_draw" = some (.ref f__law_draw)
  f__law_one : Addr
  fd__law_one : FuncData
  F__law_one : Fun K "_law_one" "_law_one" s__law_one f__law_one fd__law_one
  b__law_one : Binds K fd__law_one ["_law_well_here", "_law_some_here"] []
  m__law_one : mg "_law_one" = some (.ref f__law_one)
  f__law_names : Addr
  fd__law_names : FuncData
  F__law_names : Fun K "_law_names" "_law_names" s__law_names f__law_names fd__law_names
  b__law_names : Binds K fd__law_names ["_law_well_here", "_law_many"] []
  m__law_names : mg "_law_names" = some (.ref f__law_names)
  f__law_pairs : Addr
  fd__law_pairs : FuncData
  F__law_pairs : Fun K "_law_pairs" "_law_pairs" s__law_pairs f__law_pairs fd__law_pairs
  b__law_pairs : Binds K fd__law_pairs ["_law_well_here", "_law_many"] []
  m__law_pairs : mg "_law_pairs" = some (.ref f__law_pairs)
  f__law_beneath : Addr
  fd__law_beneath : FuncData
  F__law_beneath : Fun K "_law_beneath" "_law_beneath" s__law_beneath f__law_beneath fd__law_beneath
  b__law_beneath : Binds K fd__law_beneath ["_law_pairs_here", "_law_column"] []
  m__law_beneath : mg "_law_beneath" = some (.ref f__law_beneath)
  f__law_some : Addr
  fd__law_some : FuncData
  F__law_some : Fun K "_law_some" "_law_some" s__law_some f__law_some fd__law_some
  b__law_some : Binds K fd__law_some ["_law_well_here", "_law_many"] []
  m__law_some : mg "_law_some" = some (.ref f__law_some)
  f__law_great : Addr
  fd__law_great : FuncData
  F__law_great : Fun K "_law_great" "_law_great" s__law_great f__law_great fd__law_great
  b__law_great : Binds K fd__law_great ["_law_well_here", "_law_pairs_here"] []
  m__law_great : mg "_law_great" = some (.ref f__law_great)
  f__law_counts : Addr
  fd__law_counts : FuncData
  F__law_counts : Fun K "_law_counts" "_law_counts" s__law_counts f__law_counts fd__law_counts
  b__law_counts : Binds K fd__law_counts ["_law_bunches"] []
  m__law_counts : mg "_law_counts" = some (.ref f__law_counts)
  f__law_product : Addr
  fd__law_product : FuncData
  F__law_product : Fun K "_law_product" "_law_product" s__law_product f__law_product fd__law_product
  b__law_product : Binds K fd__law_product ["_law_numbers", "_law_parts"] []
  m__law_product : mg "_law_product" = some (.ref f__law_product)
  f__law_number : Addr
  fd__law_number : FuncData
  F__law_number : Fun K "_law_number" "_law_number" s__law_number f__law_number fd__law_number
  b__law_number : Binds K fd__law_number ["_law_bunches", "_law_many", "_law_parts", "_law_row"] []
  m__law_number : mg "_law_number" = some (.ref f__law_number)
  f__law_some_row : Addr
  fd__law_some_row : FuncData
  F__law_some_row : Fun K "_law_some_row" "_law_some_row" s__law_some_row f__law_some_row fd__law_some_row
  b__law_some_row : Binds K fd__law_some_row ["_law_well_here", "_law_bunches", "_law_parts"] []
  m__law_some_row : mg "_law_some_row" = some (.ref f__law_some_row)
  f__law_next_right : Addr
  fd__law_next_right : FuncData
  F__law_next_right : Fun K "_law_next_right" "_law_next_right" s__law_next_right f__law_next_right fd__law_next_right
  b__law_next_right : Binds K fd__law_next_right ["_law_fold", "_law_number_here", "_law_last"] []
  m__law_next_right : mg "_law_next_right" = some (.ref f__law_next_right)
  f__law_walked : Addr
  fd__law_walked : FuncData
  F__law_walked : Fun K "_law_walked" "_law_walked" s__law_walked f__law_walked fd__law_walked
  b__law_walked : Binds K fd__law_walked ["_law_fold", "_law_number_here", "_law_other"] []
  m__law_walked : mg "_law_walked" = some (.ref f__law_walked)
  f_law : Addr
  fd_law : FuncData
  F_law : Fun K "law" "law" s_law f_law fd_law
  b_law : Binds K fd_law ["_law_script"] []
  m_law : mg "law" = some (.ref f_law)
  f_Fold_init : Addr
  fd_Fold_init : FuncData
  F_Fold_init : Fun K "__init__" "Fold.__init__" s_Fold_init f_Fold_init fd_Fold_init
  b_Fold_init : Binds K fd_Fold_init ["self", "tree", "bunches", "tops"] []
  mt_Fold_init : Meth K C_Fold "__init__" f_Fold_init
  f_Fold_tree : Addr
  fd_Fold_tree : FuncData
  F_Fold_tree : Fun K "tree" "Fold.tree" s_Fold_tree f_Fold_tree fd_Fold_tree
  b_Fold_tree : Binds K fd_Fold_tree ["self"] []
  mt_Fold_tree : Meth K C_Fold "tree" f_Fold_tree
  f_Fold_tops : Addr
  fd_Fold_tops : FuncData
  F_Fold_tops : Fun K "tops" "Fold.tops" s_Fold_tops f_Fold_tops fd_Fold_tops
  b_Fold_tops : Binds K fd_Fold_tops ["self"] []
  mt_Fold_tops : Meth K C_Fold "tops" f_Fold_tops
  f_Fold_count : Addr
  fd_Fold_count : FuncData
  F_Fold_count : Fun K "count" "Fold.count" s_Fold_count f_Fold_count fd_Fold_count
  b_Fold_count : Binds K fd_Fold_count ["self"] []
  mt_Fold_count : Meth K C_Fold "count" f_Fold_count
  f_Fold_has : Addr
  fd_Fold_has : FuncData
  F_Fold_has : Fun K "has" "Fold.has" s_Fold_has f_Fold_has fd_Fold_has
  b_Fold_has : Binds K fd_Fold_has ["self", "row"] []
  mt_Fold_has : Meth K C_Fold "has" f_Fold_has
  f_Pool_init : Addr
  fd_Pool_init : FuncData
  F_Pool_init : Fun K "__init__" "Pool.__init__" s_Pool_init f_Pool_init fd_Pool_init
  b_Pool_init : Binds K fd_Pool_init ["self", "tree"] []
  mt_Pool_init : Meth K C_Pool "__init__" f_Pool_init
  f_Pool_put : Addr
  fd_Pool_put : FuncData
  F_Pool_put : Fun K "put" "Pool.put" s_Pool_put f_Pool_put fd_Pool_put
  b_Pool_put : Binds K fd_Pool_put ["self", "column", "entries"] []
  mt_Pool_put : Meth K C_Pool "put" f_Pool_put
  f_Pool_fold : Addr
  fd_Pool_fold : FuncData
  F_Pool_fold : Fun K "fold" "Pool.fold" s_Pool_fold f_Pool_fold fd_Pool_fold
  b_Pool_fold : Binds K fd_Pool_fold ["self", "tops"] []
  mt_Pool_fold : Meth K C_Pool "fold" f_Pool_fold
  f_Finder_init : Addr
  fd_Finder_init : FuncData
  F_Finder_init : Fun K "__init__" "Finder.__init__" s_Finder_init f_Finder_init fd_Finder_init
  b_Finder_init : Binds K fd_Finder_init ["self", "fold"] []
  mt_Finder_init : Meth K C_Finder "__init__" f_Finder_init
  f_Finder_below_parts : Addr
  fd_Finder_below_parts : FuncData
  F_Finder_below_parts : Fun K "below_parts" "Finder.below_parts" s_Finder_below_parts f_Finder_below_parts fd_Finder_below_parts
  b_Finder_below_parts : Binds K fd_Finder_below_parts ["self", "parts", "bound"] []
  mt_Finder_below_parts : Meth K C_Finder "below_parts" f_Finder_below_parts
  f_Finder_below_bunch : Addr
  fd_Finder_below_bunch : FuncData
  F_Finder_below_bunch : Fun K "below_bunch" "Finder.below_bunch" s_Finder_below_bunch f_Finder_below_bunch fd_Finder_below_bunch
  b_Finder_below_bunch : Binds K fd_Finder_below_bunch ["self", "bunch", "bound"] []
  mt_Finder_below_bunch : Meth K C_Finder "below_bunch" f_Finder_below_bunch
  f_Finder_below : Addr
  fd_Finder_below : FuncData
  F_Finder_below : Fun K "below" "Finder.below" s_Finder_below f_Finder_below fd_Finder_below
  b_Finder_below : Binds K fd_Finder_below ["self", "bound"] []
  mt_Finder_below : Meth K C_Finder "below" f_Finder_below
  f_Tree_init : Addr
  fd_Tree_init : FuncData
  F_Tree_init : Fun K "__init__" "Tree.__init__" s_Tree_init f_Tree_init fd_Tree_init
  b_Tree_init : Binds K fd_Tree_init ["self", "pairs"] []
  mt_Tree_init : Meth K C_Tree "__init__" f_Tree_init
  f_Tree_len : Addr
  fd_Tree_len : FuncData
  F_Tree_len : Fun K "__len__" "Tree.__len__" s_Tree_len f_Tree_len fd_Tree_len
  b_Tree_len : Binds K fd_Tree_len ["self"] []
  mt_Tree_len : Meth K C_Tree "__len__" f_Tree_len
  f_Tree_want : Addr
  fd_Tree_want : FuncData
  F_Tree_want : Fun K "want" "Tree.want" s_Tree_want f_Tree_want fd_Tree_want
  b_Tree_want : Binds K fd_Tree_want ["self", "column"] []
  mt_Tree_want : Meth K C_Tree "want" f_Tree_want
  f_Tree_columns : Addr
  fd_Tree_columns : FuncData
  F_Tree_columns : Fun K "columns" "Tree.columns" s_Tree_columns f_Tree_columns fd_Tree_columns
  b_Tree_columns : Binds K fd_Tree_columns ["self"] []
  mt_Tree_columns : Meth K C_Tree "columns" f_Tree_columns
  f_Tree_beneath : Addr
  fd_Tree_beneath : FuncData
  F_Tree_beneath : Fun K "beneath" "Tree.beneath" s_Tree_beneath f_Tree_beneath fd_Tree_beneath
  b_Tree_beneath : Binds K fd_Tree_beneath ["self", "column"] []
  mt_Tree_beneath : Meth K C_Tree "beneath" f_Tree_beneath
  f_Tree_children : Addr
  fd_Tree_children : FuncData
  F_Tree_children : FunD K "children" "Tree.children" (defArgs s_Tree_children) (defBody s_Tree_children) (defScope s_Tree_children) [.non] [] f_Tree_children fd_Tree_children
  mt_Tree_children : Meth K C_Tree "children" f_Tree_children
  f_Walker_init : Addr
  fd_Walker_init : FuncData
  F_Walker_init : Fun K "__init__" "Walker.__init__" s_Walker_init f_Walker_init fd_Walker_init
  b_Walker_init : Binds K fd_Walker_init ["self", "fold"] []
  mt_Walker_init : Meth K C_Walker "__init__" f_Walker_init
  f_Walker_row : Addr
  fd_Walker_row : FuncData
  F_Walker_row : Fun K "row" "Walker.row" s_Walker_row f_Walker_row fd_Walker_row
  b_Walker_row : Binds K fd_Walker_row ["self"] []
  mt_Walker_row : Meth K C_Walker "row" f_Walker_row
  f_Walker_where : Addr
  fd_Walker_where : FuncData
  F_Walker_where : Fun K "where" "Walker.where" s_Walker_where f_Walker_where fd_Walker_where
  b_Walker_where : Binds K fd_Walker_where ["self"] []
  mt_Walker_where : Meth K C_Walker "where" f_Walker_where
  f_Walker_stand_at : Addr
  fd_Walker_stand_at : FuncData
  F_Walker_stand_at : Fun K "stand_at" "Walker.stand_at" s_Walker_stand_at f_Walker_stand_at fd_Walker_stand_at
  b_Walker_stand_at : Binds K fd_Walker_stand_at ["self", "number"] []
  mt_Walker_stand_at : Meth K C_Walker "stand_at" f_Walker_stand_at
  f_Walker_step : Addr
  fd_Walker_step : FuncData
  F_Walker_step : FunD K "step" "Walker.step" (defArgs s_Walker_step) (defBody s_Walker_step) (defScope s_Walker_step) [.int 1] [] f_Walker_step fd_Walker_step
  mt_Walker_step : Meth K C_Walker "step" f_Walker_step
  f_Walker_back : Addr
  fd_Walker_back : FuncData
  F_Walker_back : FunD K "back" "Walker.back" (defArgs s_Walker_back) (defBody s_Walker_back) (defScope s_Walker_back) [.int 1] [] f_Walker_back fd_Walker_back
  mt_Walker_back : Meth K C_Walker "back" f_Walker_back
  f_Walker_to : Addr
  fd_Walker_to : FuncData
  F_Walker_to : Fun K "to" "Walker.to" s_Walker_to f_Walker_to fd_Walker_to
  b_Walker_to : Binds K fd_Walker_to ["self", "row"] []
  mt_Walker_to : Meth K C_Walker "to" f_Walker_to
  cl_Fold : Cls K C_Fold
  M_Fold : Mk K C_Fold f_Fold_init
  mC_Fold : mg "Fold" = some (.ref C_Fold)
  na_Fold_shape : NoAttr K C_Fold "shape"
  na_Fold_held : NoAttr K C_Fold "held"
  na_Fold_roots : NoAttr K C_Fold "roots"
  cl_Pool : Cls K C_Pool
  M_Pool : Mk K C_Pool f_Pool_init
  mC_Pool : mg "Pool" = some (.ref C_Pool)
  na_Pool_shape : NoAttr K C_Pool "shape"
  na_Pool_numbers : NoAttr K C_Pool "numbers"
  na_Pool_held : NoAttr K C_Pool "held"
  cl_Finder : Cls K C_Finder
  M_Finder : Mk K C_Finder f_Finder_init
  mC_Finder : mg "Finder" = some (.ref C_Finder)
  na_Finder_looked_at : NoAttr K C_Finder "looked_at"
  na_Finder_many : NoAttr K C_Finder "many"
  cl_Tree : Cls K C_Tree
  M_Tree : Mk K C_Tree f_Tree_init
  mC_Tree : mg "Tree" = some (.ref C_Tree)
  na_Tree_overs : NoAttr K C_Tree "overs"
  na_Tree_kids : NoAttr K C_Tree "kids"
  na_Tree_order : NoAttr K C_Tree "order"
  cl_Walker : Cls K C_Walker
  M_Walker : Mk K C_Walker f_Walker_init
  mC_Walker : mg "Walker" = some (.ref C_Walker)
  na_Walker_walked : NoAttr K C_Walker "walked"
  na_Walker_standing : NoAttr K C_Walker "standing"
  n_len : mg "len" = none
  n_int : mg "int" = none
  n_max : mg "max" = none
  n_min : mg "min" = none
  n_sum : mg "sum" = none
  n_all : mg "all" = none
  n_sorted : mg "sorted" = none
  n_isinstance : mg "isinstance" = none
  n_tuple : mg "tuple" = none
  n_list : mg "list" = none
  n_dict : mg "dict" = none
  n_range : mg "range" = none
  n_enumerate : mg "enumerate" = none
  n_zip : mg "zip" = none
  n_reversed : mg "reversed" = none
  n_str : mg "str" = none
  n_bool : mg "bool" = none
  u_LETTERS : Value
  c_LETTERS : mg "LETTERS" = some u_LETTERS
  r_LETTERS : RelV (.str "abcdefghijklmnopqrstuvwxyz") u_LETTERS
  u_LONGEST_NAME : Value
  c_LONGEST_NAME : mg "LONGEST_NAME" = some u_LONGEST_NAME
  r_LONGEST_NAME : RelV (.int 8) u_LONGEST_NAME
  u_MOST_COLUMNS : Value
  c_MOST_COLUMNS : mg "MOST_COLUMNS" = some u_MOST_COLUMNS
  r_MOST_COLUMNS : RelV (.int 8) u_MOST_COLUMNS
end Fb
set_option Elab.async false
set_option linter.all false
set_option maxRecDepth 100000
set_option maxHeartbeats 4000000
/-! Rules of our own over the hand layer: *= , len of an own instance, dicts with None among their keys, dicts with nested tuples as keys. -/
namespace Fb
open PySem PySem.Spec PyProof.Rows L2
/-! ### x *= y -/
theorem ip_mul {X : Cx} : PIp X .Mult (rI CMul fun i j => .int (i * j)) := fun pins s σ H x y v u Q I r1 r2 q => iop_mul pins s σ H x y v u Q I r1 r2 q
/-! ### len of an own instance -/
theorem call_len_own {X : Cx} {CX : CXT} {C f : Addr} {k : Nat} {fd : FuncData} {ps : List Str} {sp : Sp} {E : XK} (M : Meth X.K C "__len__" f) (F : FnOk X.prog X.w X.K X.mg X.base CX k f fd ps sp) (hr : Room (k + 1) X.A) (hb : Binds X.K fd ps []) (hx : Passes CX X E) :
    CallR X (.builtin "len") (fun vs H Q => ∃ (a dx : Addr) (fs : List (Str × V)), vs = [V.ref a] ∧ H a = some (.ins C dx fs) ∧ sp [.ref a] H (fun v H' => ∃ n : Int, v = .int n ∧ 0 ≤ n ∧ n < 2 ^ 63 ∧ Q (.int n) H') E) := by
  intro pins s σ H xs us Q I r h
  obtain ⟨a, dx, fs, rfl, ha, hs⟩ := h
  obtain ⟨u, rfl, ru⟩ := vals1 r
  cases ru
  obtain ⟨mA, J, _⟩ := ins_get I.hok ha
  obtain ⟨od, J, _⟩ := J.look
  obtain ⟨m, hF⟩ := I.fr
  refine PySem.W.len_K hF I.ok.mod.kin J M.at_ M.fn ?_
  have e0 : Env0 X.prog X.w X.K X.mg X.base X.A.in1 X.stack s H := I.env0.in1
  have hl := F.len _ _ _ _ hs
  have r2 : Vals [V.ref a] [Value.ref a] := .cons rfl .nil
  have hbb : BindsTo s fd ⟨[Value.ref a], []⟩ (ps.zip [Value.ref a]) := by
    have q := hb s [Value.ref a] I.kIn (by simpa using hl)
    simpa using q
  refine wpAny_call (codeAny_mono (F.run X.A.in1 X.stack s H ⟨[Value.ref a], []⟩ [Value.ref a] [V.ref a] _ E hr.in1 e0 hbb r2 hs) fun res s' hq => ?_)
  cases res with
  | error e => exact hx pins σ H s e s' I hq
  | ok fl =>
    cases fl with
    | ret w' =>
      obtain ⟨z, H', I', rz, n, ez, h0, h1, q⟩ := I.after hq
      subst ez
      obtain ⟨t, rfl⟩ := rz
      exact ⟨⟨h0, h1⟩, .int n, H', I'.tok _, ⟨_, rfl⟩, q⟩
    | next => exact False.elim hq
    | brk => exact False.elim hq
    | cont => exact False.elim hq
/-! ### dicts whose keys are whole numbers, texts and None -/
def leafV : Leaf → V
  | .none => .non
  | .num i => .int i
  | .text x => .str x
theorem leaf_is {P : Program} {w : World} {k : Leaf} {u : Value} (r : RelV (leafV k) u) : (leafKind P w).is k u = true := by
  cases k with
  | none =>
    cases (show u = Value.none from r)
    rfl
  | num i =>
    obtain ⟨t, rfl⟩ := (show ∃ t, u = Value.int i t from r)
    exact decide_eq_true rfl
  | text x =>
    obtain ⟨t, rfl⟩ := (show ∃ t, u = Value.str x t from r)
    show Value.isStrOf x (.str x t) = true
    simp [Value.isStrOf]
/-- such a dict at a -/
def LfO (P : Program) (w : World) (a : Addr) (kvs : List (Leaf × V)) : HO := .ext fun h => kvs.length ≤ sizeLine ∧ (a == sysModules) = false ∧ ∃ vs, KV kvs vs ∧ h.DictOf (leafKind P w) a vs
section
variable {P : Program} {w : World} {H : Hp} {h : Heap} {a : Addr} {kvs : List (Leaf × V)}
theorem lf_of (ok : HOk P w H h) (e : H a = some (LfO P w a kvs)) : kvs.length ≤ sizeLine ∧ (a == sysModules) = false ∧ ∃ vs, KV kvs vs ∧ h.DictOf (leafKind P w) a vs := (ok a _ e).1
theorem lf_new {H' : Hp} {h' : Heap} {vs : List (Leaf × Value)} (z : kvs.length ≤ sizeLine) (hd : (a == sysModules) = false) (rel : KV kvs vs) (dd : h'.DictOf (leafKind P w) a vs) : ObjOk P w H' h' a (LfO P w a kvs) := by
  refine ⟨⟨z, hd, vs, rel, dd⟩, ?_, ?_⟩
  · obtain ⟨o, _, _, e, _⟩ := dd
    exact ⟨o, e⟩
  · rintro h1 h2 ⟨z, hd, vs, rel, o, es, ep, e, c⟩ k
    exact ⟨z, hd, vs, rel, o, es, ep, k _ e, c⟩
end
section
variable {X : Cx} {pins : List (Addr × Obj)} {σ : L2.St} {H : Hp} {s : Shared} {a : Addr} {y v : V} {u r : Value} {kvs : List (Leaf × V)} {k : Leaf} {A : Around} {E : Value → Shared → Prop}
theorem lf_getItem {Q : Value → Shared → Prop} (I : Inv X pins σ H s) (e : H a = some (LfO X.prog X.w a kvs)) (l : valV kvs k = some v) (ry : RelV (leafV k) u) (h : ∀ w' s', Inv X pins σ H s' → RelV v w' → Q w' s') :
    wpAny (model X.prog X.w) A (getItem (.ref a) u) Q E s := by
  obtain ⟨z, hd, vs, rel, dd⟩ := lf_of I.hok e
  obtain ⟨w', hw, rw'⟩ := RelO.some_of (v := v) (o := valueAt vs k) (by rw [← l]; exact rel.val k)
  exact wpAny_getItem_of (leaf_is ry) dd.mapOf hw (h w' _ (I.tok _) rw')
theorem lf_setItem {Q : Unit → Shared → Prop} (I : Inv X pins σ H s) (e : H a = some (LfO X.prog X.w a kvs)) (hl : kvs.length < sizeLine) (ry : RelV (leafV k) u) (rv : RelV v r) (h : ∀ s', Inv X pins σ (upd H a (LfO X.prog X.w a (putK kvs k v))) s' → Q () s') :
    wpAny (model X.prog X.w) A (setItem (.ref a) u r) Q E s := by
  obtain ⟨z, hd, vs, rel, dd⟩ := lf_of I.hok e
  have hz : vs.length ≤ sizeLine := by rw [← rel.length]; exact z
  have hp : (putK kvs k v).length ≤ sizeLine := Nat.le_trans (length_putK kvs k v) hl
  refine wpAny_setItem_pairs (hsz := hz) (leaf_is ry) dd fun h' dd' hs => h _ ?_
  have he : ∃ q, h'.get? a = some q := let ⟨q, _, _, hq, _⟩ := dd'; ⟨q, hq⟩
  exact d_write I (by rw [e]; exact True.intro) hs he (lf_new hp hd (rel.put k rv) dd')
end
/-- d[y] of such a dict -/
def tDGetN (P : Program) (w : World) (td ty : TE) : TE := fun σ H Q => td σ H fun x H1 => ty σ H1 fun y H2 => ∃ a kvs k v, x = .ref a ∧ H2 a = some (LfO P w a kvs) ∧ y = leafV k ∧ valV kvs k = some v ∧ Q v H2
def sDPutN (P : Program) (w : World) (td ty tv : TE) : TS := fun D σ H => tv σ H fun v H1 => td σ H1 fun x H2 => ty σ H2 fun y H3 => ∃ a kvs k, x = .ref a ∧ H3 a = some (LfO P w a kvs) ∧ y = leafV k ∧ kvs.length < sizeLine ∧ D.nx σ (upd H3 a (LfO P w a (putK kvs k v)))
/-- {k: v, ..}; it stands empty while the pairs are made -/
def tDispN (P : Program) (w : World) (trs : List (TE × TE)) : TE := fun σ H Q => ∀ p, H p = none → tPairs trs σ (upd H p (LfO P w p [])) fun ps H2 => H2 p = some (LfO P w p []) ∧ ∃ kvs : List (Leaf × V), ps = kvs.map (fun kv => (leafV kv.1, kv.2)) ∧ kvs.length ≤ 15 ∧ (kvs.map (·.1)).Nodup ∧ Q (.ref p) (upd H2 p (LfO P w p kvs))
section
variable {X : Cx} {o i value : Expr} {pos pos' : Pos} {td ty tv : TE}
theorem pe_dgetN (ho : PE X o td) (hi : PE X i ty) (hs : NoSl i) : PE X (.Subscript o i pos) (tDGetN X.prog X.w td ty) := by
  refine ⟨fun pins s σ H Q I h => ?_⟩
  refine subD_of PySem.F.slot_dict_getitem.lookup hs (thn (ho.run pins s σ H _ I h) fun u s1 ⟨x, H1, I1, rx, q1⟩ => thn (hi.run pins s1 σ H1 _ I1 q1) fun iv s2 ⟨y, H2, I2, ry, a, kvs, k, v, ex, e, ey, l, q2⟩ => ?_)
  subst ex ey
  obtain rfl : u = Value.ref a := rx
  obtain ⟨_, _, vs, _, dd⟩ := lf_of I2.hok e
  exact ⟨dd.typeIs, lf_getItem I2 e l ry fun w' s3 I3 rw' => ⟨v, H2, I3, rw', q2⟩⟩
theorem ps_dputN (ho : PE X o td) (hi : PE X i ty) (hv : PE X value tv) (hs : swapsWith value (some (.Subscript o i pos')) pos.line X.env = pure false) :
    PS X (.Assign [.Subscript o i pos'] value pos) (sDPutN X.prog X.w td ty tv) := by
  refine ⟨fun pins s σ H D I h => ?_⟩
  refine wpAny_Assign_Subscript (thn (hv.run pins s σ H _ I h) fun r s1 ⟨v, H1, I1, rv, q1⟩ => thn (ho.run pins s1 σ H1 _ I1 q1) fun u s2 ⟨x, H2, I2, rx, q2⟩ => thn (hi.run pins s2 σ H2 _ I2 q2) fun iv s3 ⟨y, H3, I3, ry, a, kvs, k, ex, e, ey, l, q3⟩ => ?_) hs
  subst ex ey
  obtain rfl : u = Value.ref a := rx
  exact lf_setItem I3 e l ry rv fun s4 I4 => ⟨σ, _, I4, q3⟩
theorem lf_carries {P : Program} {w : World} : ∀ {kvs : List (Leaf × V)} {ws : List (Value × Value)}, VV (kvs.map fun kv => (leafV kv.1, kv.2)) ws → ∃ rs, Carries (leafKind P w) ws rs ∧ KV kvs rs
  | [], _, r => by rw [List.map_nil] at r; cases r; exact ⟨[], True.intro, .nil⟩
  | p :: kvs, _, r => by
    rw [List.map_cons] at r
    cases r with
    | @cons a b as bs h t =>
      obtain ⟨rs, c, q⟩ := lf_carries (P := P) (w := w) t
      obtain ⟨b1, b2⟩ := b
      exact ⟨(p.1, b2) :: rs, ⟨leaf_is h.1, rfl, c⟩, .cons ⟨rfl, h.2⟩ q⟩
theorem putK_snocs {κ : Type} [DecidableEq κ] : ∀ (more kvs : List (κ × V)), ((kvs ++ more).map (·.1)).Nodup → more.foldl (fun acc kv => putK acc kv.1 kv.2) kvs = kvs ++ more
  | [], kvs, _ => by simp
  | p :: r, kvs, h => by
    have hn : valV kvs p.1 = none := by
      cases e : valV kvs p.1 with
      | none => rfl
      | some v =>
        have m : p.1 ∈ kvs.map (·.1) := valV_in e
        rw [List.map_append] at h
        exact absurd rfl ((List.nodup_append.mp h).2.2 _ m p.1 (by simp))
    rw [List.foldl_cons, putK_new _ hn, putK_snocs r (kvs ++ [(p.1, p.2)]) (by simpa using h)]
    simp
theorem KV.mergeL {κ : Type} [DecidableEq κ] : ∀ {more : List (κ × V)} {rs : List (κ × Value)} {kvs : List (κ × V)} {vs : List (κ × Value)}, KV more rs → KV kvs vs → KV (more.foldl (fun acc kv => putK acc kv.1 kv.2) kvs) (merged vs rs) := by
  intro more rs kvs vs r
  unfold KV at r
  induction r generalizing kvs vs with
  | nil => exact fun q => q
  | @cons p q ps qs h t ih =>
    intro r0
    refine ih ?_
    have z := r0.put p.1 h.2
    show KV (putK kvs p.1 p.2) (stored vs q.1 q.2)
    rw [← h.1]
    exact z
theorem pe_dispN {keys : List (Option Expr)} {values : List Expr} {trs : List (TE × TE)} (h : PPs X pos keys values trs) (hall : keys.all (·.isSome) = true) (hl : keys.length = values.length) (h0 : keys ≠ [])
    (h15 : keys.length ≤ 15) : PE X (.Dict keys values pos) (tDispN X.prog X.w trs) := by
  refine ⟨fun pins s σ H Q I q => ?_⟩
  have hn := I.hok.fresh (Nat.le_refl s.heap.objs.size)
  have hb : (s.heap.objs.size == sysModules) = false := beq_eq_false_iff_ne.mpr (Ne.symm (Nat.ne_of_lt I.big))
  have I1 := I.laid (a := s.heap.objs.size) (o := LfO X.prog X.w s.heap.objs.size []) (h' := s.heap.push { cls := .type "dict", data := .dict #[] }) (t' := s.toks) (fun _ _ q => Heap.get?_push_of_some _ q) (Nat.le_refl _) (lf_new (Nat.zero_le _) hb .nil (Heap.DictOf.new s.heap))
  refine wpAny_Dict_walk (knd := leafKind X.prog X.w) hall hl h0 h15 (thn (h.run pins _ σ _ _ I1 (q _ hn)) fun ws s2 ⟨ps, H2, I2, rel, e, kvs, ep, lk, nd, q2⟩ => ?_)
  subst ep
  obtain ⟨rs, c, rk⟩ := lf_carries (P := X.prog) (w := X.w) rel
  obtain ⟨z, hd, vs0, r0, dd⟩ := lf_of I2.hok e
  cases r0
  refine ⟨rs, c, dd, fun h' dd' hs => ⟨.ref s.heap.objs.size, _, ?_, rfl, q2⟩⟩
  have hz : kvs.length ≤ sizeLine := by rw [sizeLine_eq]; omega
  have he : ∃ q, h'.get? s.heap.objs.size = some q := let ⟨q, _, _, hq, _⟩ := dd'; ⟨q, hq⟩
  have rm : KV kvs (merged [] rs) := by
    have z := KV.mergeL rk (kvs := []) (vs := []) .nil
    rw [putK_snocs kvs [] (by simpa using nd)] at z
    simpa using z
  exact d_write I2 (by rw [e]; exact True.intro) hs he (lf_new hz hd rm dd')
end
/-! ### dicts whose keys are nested tuples -/
mutual
/-- a value is a key, by the tracked tuples -/
inductive NK (H : Hp) : NestedKey → V → Prop
  | non : NK H .none .non
  | int (i : Int) : NK H (.num i) (.int i)
  | str (x : Str) : NK H (.text x) (.str x)
  | tup {a : Addr} {xs : List V} {ks : List NestedKey} : H a = some (.tup xs) → NKs H ks xs → NK H (.tup ks) (.ref a)
inductive NKs (H : Hp) : List NestedKey → List V → Prop
  | nil : NKs H [] []
  | cons {k : NestedKey} {ks : List NestedKey} {v : V} {vs : List V} : NK H k v → NKs H ks vs → NKs H (k :: ks) (v :: vs)
end
mutual
theorem NK.mono {H H' : Hp} (e : Same H H') : ∀ {k : NestedKey} {v : V}, NK H k v → NK H' k v
  | _, _, .non => .non
  | _, _, .int i => .int i
  | _, _, .str x => .str x
  | _, _, .tup h hs => .tup (e _ _ h) (NKs.mono e hs)
theorem NKs.mono {H H' : Hp} (e : Same H H') : ∀ {k : List NestedKey} {v : List V}, NKs H k v → NKs H' k v
  | _, _, .nil => .nil
  | _, _, .cons h hs => .cons (NK.mono e h) (NKs.mono e hs)
end
mutual
theorem NK.is {P : Program} {w : World} {H : Hp} {h : Heap} (ok : HOk P w H h) : ∀ {k : NestedKey} {v : V} {u : Value}, NK H k v → RelV v u → NestedIs h k u
  | _, _, u, .non, r => by cases (show u = Value.none from r); exact .none
  | _, _, u, .int i, r => by obtain ⟨t, rfl⟩ := (show ∃ t, u = Value.int i t from r); exact .int i t
  | _, _, u, .str x, r => by obtain ⟨t, rfl⟩ := (show ∃ t, u = Value.str x t from r); exact .text x t
  | _, _, u, @NK.tup _ a xs ks e hs, r => by
    cases (show u = Value.ref a from r)
    obtain ⟨_, its, rv, o, h1, h2, n, h3⟩ := (show ObjOk P w H h a (.tup xs) from ok a _ e)
    exact .tup h1 h2 h3 (by simpa using NKs.is ok hs rv)
theorem NKs.is {P : Program} {w : World} {H : Hp} {h : Heap} (ok : HOk P w H h) : ∀ {k : List NestedKey} {v : List V} {u : List Value}, NKs H k v → Vals v u → NestedAll h k u
  | _, _, _, .nil, r => by cases r; exact .nil
  | _, _, _, .cons q qs, r => by
    cases r with
    | cons r1 r2 => exact .cons (NK.is ok q r1) (NKs.is ok qs r2)
end
/-- the entries: a key, where its tuple stands, the value -/
abbrev NEnts := List (NestedKey × Addr × V)
abbrev NRel : NEnts → List (NestedKey × Addr × Value) → Prop := Paired fun p q => p.1 = q.1 ∧ p.2.1 = q.2.1 ∧ RelV p.2.2 q.2.2
def valN (xs : NEnts) (k : NestedKey) : Option V := (xs.find? fun x => decide (x.1 = k)).map (·.2.2)
def NkO (P : Program) (w : World) (a : Addr) (xs : NEnts) : HO := .ext fun h => xs.length ≤ sizeLine ∧ (a == sysModules) = false ∧ ∃ ys, NRel xs ys ∧ ∃ o es ep, h.get? a = some o ∧ o.ExactDict ∧ o.data = .dict es ep ∧ es.toList = ys.map (entryOfKey (nestedKind P w)) ∧ (ys.map (·.1)).Nodup
theorem NRel.val {xs : NEnts} {ys : List (NestedKey × Addr × Value)} (r : NRel xs ys) (k : NestedKey) : RelO (valN xs k) ((atKey ys k).map (·.2)) := by
  induction r with
  | nil => exact True.intro
  | @cons p q ps qs h t ih =>
    obtain ⟨h1, _, h2⟩ := h
    by_cases e : p.1 = k
    · have e' : q.1 = k := h1.symm.trans e
      have a : valN (p :: ps) k = some p.2.2 := by simp [valN, List.find?_cons, e]
      have b : atKey (q :: qs) k = some q.2 := by simp [atKey, List.find?_cons, e']
      rw [a, b]; exact h2
    · have e' : ¬ q.1 = k := fun z => e (h1.trans z)
      have a : valN (p :: ps) k = valN ps k := by simp [valN, List.find?_cons, e]
      have b : atKey (q :: qs) k = atKey qs k := by simp [atKey, List.find?_cons, e']
      rw [a, b]; exact ih
/-- the keys' tuples stand -/
def NKeys (H : Hp) (xs : NEnts) : Prop := ∀ x ∈ xs, NK H x.1 (.ref x.2.1) ∧ x.1.depth ≤ 8
section
variable {P : Program} {w : World} {H : Hp} {h : Heap} {a : Addr} {xs : NEnts}
theorem nk_of (ok : HOk P w H h) (e : H a = some (NkO P w a xs)) (hk : NKeys H xs) : xs.length ≤ sizeLine ∧ (a == sysModules) = false ∧ ∃ ys, NRel xs ys ∧ h.DictOfH (nestedKind P w) a ys := by
  obtain ⟨z, hd, ys, r, o, es, ep, h1, h2, h3, h4, h5⟩ := (ok a _ e).1
  refine ⟨z, hd, ys, r, o, es, ep, h1, h2, h3, h4, ?_, h5⟩
  have all : ∀ {l : NEnts} {m : List (NestedKey × Addr × Value)}, NRel l m → NKeys H l → ∀ x ∈ m, (nestedKind P w).is h x.1 x.2.1 := by
    intro l m q
    induction q with
    | nil => intro _ x hx; exact nomatch hx
    | @cons p q ps qs hq t ih =>
      intro hl x hx
      rcases List.mem_cons.mp hx with e | hx
      · subst e
        obtain ⟨n1, n2⟩ := hl p List.mem_cons_self
        exact ⟨by rw [← hq.1, ← hq.2.1]; exact NK.is ok n1 rfl, by rw [← hq.1]; exact n2⟩
      · exact ih (fun y hy => hl y (List.mem_cons_of_mem _ hy)) x hx
  exact all r hk
theorem nk_new {H' : Hp} {h' : Heap} {ys : List (NestedKey × Addr × Value)} (z : xs.length ≤ sizeLine) (hd : (a == sysModules) = false) (rel : NRel xs ys) (dd : h'.DictOfH (nestedKind P w) a ys) : ObjOk P w H' h' a (NkO P w a xs) := by
  obtain ⟨o, es, ep, h1, h2, h3, h4, _, h5⟩ := dd
  refine ⟨⟨z, hd, ys, rel, o, es, ep, h1, h2, h3, h4, h5⟩, ⟨o, h1⟩, ?_⟩
  rintro h1 h2 ⟨z, hd, ys, rel, o, es, ep, e, c⟩ k
  exact ⟨z, hd, ys, rel, o, es, ep, k _ e, c⟩
theorem nk_empty (h : Heap) (hb : sysModules < h.objs.size) {H : Hp} : ObjOk P w H (h.push { cls := .type "dict", data := .dict #[] }) h.objs.size (NkO P w h.objs.size []) :=
  nk_new (Nat.zero_le _) (beq_eq_false_iff_ne.mpr (Ne.symm (Nat.ne_of_lt hb))) .nil ⟨_, #[], 0, Heap.get?_push_size _ rfl, ⟨rfl, rfl, rfl⟩, rfl, rfl, (fun x hx => nomatch hx), List.nodup_nil⟩
end
def tDNewN (P : Program) (w : World) : TE := fun _ H Q => ∀ p, H p = none → Q (.ref p) (upd H p (NkO P w p []))
def tDGetK (P : Program) (w : World) (td ty : TE) : TE := fun σ H Q => td σ H fun x H1 => ty σ H1 fun y H2 => ∃ a b xs k v, x = .ref a ∧ y = .ref b ∧ H2 a = some (NkO P w a xs) ∧ NKeys H2 xs ∧ NK H2 k (.ref b) ∧ k.depth ≤ 8 ∧ valN xs k = some v ∧ Q v H2
def tDNotInK (P : Program) (w : World) (ty td : TE) : TE := fun σ H Q => ty σ H fun y H1 => td σ H1 fun x H2 => ∃ a b xs k, x = .ref a ∧ y = .ref b ∧ H2 a = some (NkO P w a xs) ∧ NKeys H2 xs ∧ NK H2 k (.ref b) ∧ k.depth ≤ 8 ∧ Q (.bl (!(valN xs k).isSome)) H2
def sDPutK (P : Program) (w : World) (td ty tv : TE) : TS := fun D σ H => tv σ H fun v H1 => td σ H1 fun x H2 => ty σ H2 fun y H3 => ∃ a b xs k, x = .ref a ∧ y = .ref b ∧ H3 a = some (NkO P w a xs) ∧ NKeys H3 xs ∧ NK H3 k (.ref b) ∧ k.depth ≤ 8 ∧ valN xs k = none ∧ xs.length < sizeLine ∧
  D.nx σ (upd H3 a (NkO P w a (xs ++ [(k, b, v)])))
section
variable {X : Cx} {o i value : Expr} {pos pos' : Pos} {td ty tv : TE}
theorem pe_dnewN : PE X (.Dict [] [] pos) (tDNewN X.prog X.w) := ⟨fun pins s σ H Q I h =>
  wpAny_Dict_empty ⟨.ref s.heap.objs.size, _, I.laid (a := s.heap.objs.size) (o := NkO X.prog X.w s.heap.objs.size []) (t' := s.toks) (fun _ _ q => Heap.get?_push_of_some _ q) (Nat.le_refl _) (nk_empty s.heap I.big), rfl, h _ (I.hok.fresh (Nat.le_refl _))⟩⟩
theorem nk_room {X : Cx} (hu : X.A.units + 64 < cLine) : (nestedKind X.prog X.w).room X.A.in1 := by
  show X.A.units + 1 + 8 < cLine
  omega
theorem pe_dgetT (hu : X.A.units + 64 < cLine) (ho : PE X o td) (hi : PE X i ty) (hs : NoSl i) : PE X (.Subscript o i pos) (tDGetK X.prog X.w td ty) := by
  refine ⟨fun pins s σ H Q I h => ?_⟩
  refine subD_of PySem.F.slot_dict_getitem.lookup hs (thn (ho.run pins s σ H _ I h) fun u s1 ⟨x, H1, I1, rx, q1⟩ => thn (hi.run pins s1 σ H1 _ I1 q1) fun iv s2 ⟨y, H2, I2, ry, a, b, xs, k, v, ex, ey, e, hk, kb, kd, l, q2⟩ => ?_)
  subst ex ey
  obtain rfl : u = Value.ref a := rx
  obtain rfl : iv = Value.ref b := ry
  obtain ⟨z, hd, ys, rel, dd⟩ := nk_of I2.hok e hk
  refine ⟨dd.typeIs, ?_⟩
  obtain ⟨w', hw, rw'⟩ := RelO.some_of (v := v) (o := (atKey ys k).map (·.2)) (by rw [← l]; exact rel.val k)
  obtain ⟨p, hp, hp2⟩ := Option.map_eq_some_iff.mp hw
  refine wpAny_getItem_heap (nk_room hu) ⟨NK.is I2.hok kb rfl, kd⟩ dd hp ?_
  rw [hp2]
  exact ⟨v, H2, I2.tok _, rw', q2⟩
theorem pc_dnotinT (hu : X.A.units + 64 < cLine) (hi : PE X i ty) (ho : PE X o td) : PC X .NotIn i o (tDNotInK X.prog X.w ty td) := by
  refine ⟨fun pins s σ H Q I h => ?_⟩
  refine thn (hi.run pins s σ H _ I h) fun iv s1 ⟨y, H1, I1, ry, q1⟩ => thn (ho.run pins s1 σ H1 _ I1 q1) fun u s2 ⟨x, H2, I2, rx, a, b, xs, k, ex, ey, e, hk, kb, kd, q2⟩ => ?_
  subst ex ey
  obtain rfl : u = Value.ref a := rx
  obtain rfl : iv = Value.ref b := ry
  obtain ⟨z, hd, ys, rel, dd⟩ := nk_of I2.hok e hk
  refine wpAny_notIn_heap (nk_room hu) ⟨NK.is I2.hok kb rfl, kd⟩ hd dd ?_
  have q := (rel.val k).isSome_eq
  rw [Option.isSome_map] at q
  rw [← q]
  exact ⟨.bl _, H2, I2.tok _, rfl, q2⟩
theorem ps_dputT (hu : X.A.units + 64 < cLine) (ho : PE X o td) (hi : PE X i ty) (hv : PE X value tv) (hs : swapsWith value (some (.Subscript o i pos')) pos.line X.env = pure false) :
    PS X (.Assign [.Subscript o i pos'] value pos) (sDPutK X.prog X.w td ty tv) := by
  refine ⟨fun pins s σ H D I h => ?_⟩
  refine wpAny_Assign_Subscript (thn (hv.run pins s σ H _ I h) fun r s1 ⟨v, H1, I1, rv, q1⟩ => thn (ho.run pins s1 σ H1 _ I1 q1) fun u s2 ⟨x, H2, I2, rx, q2⟩ => thn (hi.run pins s2 σ H2 _ I2 q2) fun iv s3 ⟨y, H3, I3, ry, a, b, xs, k, ex, ey, e, hk, kb, kd, l, hz, q3⟩ => ?_) hs
  subst ex ey
  obtain rfl : u = Value.ref a := rx
  obtain rfl : iv = Value.ref b := ry
  obtain ⟨z, hd, ys, rel, dd⟩ := nk_of I3.hok e hk
  have hn : atKey ys k = none := by
    have q := RelO.none_of (o := (atKey ys k).map (·.2)) (by rw [← l]; exact rel.val k)
    exact Option.map_eq_none_iff.mp q
  have hys : ys.length ≤ sizeLine := by rw [← Paired.length rel]; exact z
  refine wpAny_setItem_heap (hsz := hys) (nk_room hu) ⟨NK.is I3.hok kb rfl, kd⟩ dd fun h' dd' hs => ?_
  rw [storedH_new hn] at dd'
  have he : ∃ q, h'.get? a = some q := let ⟨q, _, _, hq, _⟩ := dd'; ⟨q, hq⟩
  refine ⟨σ, _, d_write I3 (by rw [e]; exact True.intro) hs he (nk_new (by rw [List.length_append]; exact hz) hd (Paired.snoc rel ⟨rfl, rfl, rv⟩) dd'), q3⟩
end
end Fb
set_option Elab.async false
set_option linter.all false
set_option maxRecDepth 100000
set_option maxHeartbeats 4000000
/-! for a, b in zip(a tuple, a list); dict(zip(a list, a tuple)). -/
namespace Fb
open PySem PySem.Spec PyProof.Rows L2
/-! ### a loop over zip(tuple, list) -/
def ItTL (K : PySem.W.Frag) (a b : Addr) : It :=
  ⟨fun i H => ∃ (xs ys : List V) (x y : V), SqT K H a xs ∧ SqL K H b ys ∧ xs[i]? = some x ∧ ys[i]? = some y,
   fun i H v H' => ∃ T x y, v = .ref T ∧ H T = none ∧ H' = upd H T (.tup [x, y]) ∧ (∀ xs, SqT K H a xs → xs[i]? = some x) ∧ ∀ ys, SqL K H b ys → ys[i]? = some y,
   fun i H => ∃ xs ys : List V, SqT K H a xs ∧ SqL K H b ys ∧ (xs.length = i ∧ ys.length = i)⟩
abbrev StTL (z TI TO i1 i2 a b : Addr) (i : Nat) (h : Heap) : Prop :=
  IsZip h z TI TO .none ∧ IsTupOf2 h TI (.ref i1) (.ref i2) ∧ (∃ x y, IsTupOf2 h TO x y) ∧ h.IsTupleIter i1 a i ∧ h.IsListIter i2 b i
theorem tup_it {h : Heap} {a i1 l : Addr} {its : Array Value} {i : Nat} (p : IsTup h a its) (h1 : h.IsTupleIter i1 l i) : a ≠ i1 := fun e => by
  subst e
  obtain ⟨o, ho, hcl, _⟩ := h1
  obtain ⟨o', ho', hcl', _⟩ := p
  rw [ho] at ho'; cases ho'
  rw [hcl] at hcl'
  injection hcl' with q
  exact absurd q (by decide)
theorem lst_it {h : Heap} {a i1 l : Addr} {its : Array Value} {i : Nat} (p : PlainL h a its) (h1 : h.IsListIter i1 l i) : a ≠ i1 := fun e => by
  subst e
  obtain ⟨o, ho, hcl, _⟩ := h1
  obtain ⟨o', n', ho', hcl', _⟩ := p
  rw [ho] at ho'; cases ho'
  rw [hcl] at hcl'
  injection hcl' with q
  exact absurd q (by decide)
theorem turn_TL {P : Program} {w : World} {K : PySem.W.Frag} {elts : List Expr} {kk : Nat} {tpos : Pos} {a b z TI TO i1 i2 : Addr} (S : ZipSep2 z TI TO i1 i2 [i1, a] [i2, b]) :
    Turn P w K (.Tuple elts kk tpos) (ItTL K a b) [z, TI, TO, i1, i2] z (StTL z TI TO i1 i2 a b) where
  mem := by simp
  obj := fun i h st c hc => by
    obtain ⟨hz, hTI, ⟨x, y, hTO⟩, ⟨o1, e1, _, d1⟩, ⟨o2, e2, _, d2⟩⟩ := st
    simp only [List.mem_cons, List.not_mem_nil, or_false] at hc
    rcases hc with rfl | rfl | rfl | rfl | rfl
    · exact ⟨_, hz, fun v q => nomatch q⟩
    · exact ⟨_, hTI, fun v q => nomatch q⟩
    · exact ⟨_, hTO, fun v q => nomatch q⟩
    · exact ⟨o1, e1, fun v q => by rw [d1] at q; cases q⟩
    · exact ⟨o2, e2, fun v q => by rw [d2] at q; cases q⟩
  keep := fun i h h' st k => by
    obtain ⟨hz, hTI, ⟨x, y, hTO⟩, h1, h2⟩ := st
    exact ⟨k z (by simp) _ hz, k TI (by simp) _ hTI, ⟨x, y, k TO (by simp) _ hTO⟩, h1.at fun o q => k i1 (by simp) o q, h2.at fun o q => k i2 (by simp) o q⟩
  item := by
    intro X hP hw hK hc i pins s σ H E I hf st hg
    subst hP hw hK
    obtain ⟨hz, hTI, hTO, h1, h2⟩ := st
    obtain ⟨xs, ys, x, y, hqx, hqy, hx, hy⟩ := hg
    obtain ⟨its, rv, p, _⟩ := I.tuple hqx
    obtain ⟨its2, rv2, p2, _⟩ := I.list hqy
    obtain ⟨u, hu, ru⟩ := rv.get hx
    obtain ⟨u2, hu2, ru2⟩ := rv2.get hy
    have hh : X.A.in1.handled = none := I.ok.hd hc
    have na : a ≠ i1 := tup_it p h1
    have nb : b ≠ i2 := lst_it p2 h2
    have W := WalksT.zipD2 S (Draws.tuple (prog := X.prog) (w := X.w) hh i1 a na its.toArray) (Draws.list (prog := X.prog) (w := X.w) hh i2 b nb its2.toArray)
    have hi1 : i < its.toArray.size := by
      have := (List.getElem?_eq_some_iff.mp hu).1
      simpa using this
    have hi2 : i < its2.toArray.size := by
      have := (List.getElem?_eq_some_iff.mp hu2).1
      simpa using this
    refine W.item i s _ E (by omega) ⟨hz, hTI, hTO, ⟨h1, p⟩, ⟨h2, p2.isList⟩⟩ fun T vals h' tk hPt hT hTup hMid hk => ?_
    obtain ⟨w1, w2, e1, e2, rfl⟩ := hPt
    have f1 : w1 = u := by
      have : its.toArray[i]? = some u := by simpa using hu
      rw [this] at e1; exact (Option.some.inj e1).symm
    have f2 : w2 = u2 := by
      have : its2.toArray[i]? = some u2 := by simpa using hu2
      rw [this] at e2; exact (Option.some.inj e2).symm
    subst f1 f2
    have hap := W.apart i T h' hMid
    refine ⟨_, rfl, W.go elts kk tpos i T { s with heap := h', toks := tk } _ E hMid fun h'' hSt hk2 => ?_⟩
    obtain ⟨hz', hTI', hTO', ⟨h1', _⟩, ⟨h2', _⟩⟩ := hSt
    have hTup2 : IsTup h'' T #[w1, w2] := by
      obtain ⟨o, ho, r⟩ := hTup
      exact ⟨o, hk2 T o hap ho, r⟩
    have new : ObjOk X.prog X.w (upd H T (.tup [x, y])) h'' T (.tup [x, y]) := ⟨by show 2 ≤ sizeLine; decide, [w1, w2], .cons ru (.cons ru2 .nil), hTup2⟩
    have I1 : Inv X pins σ (upd H T (.tup [x, y])) { s with heap := h'', toks := tk } :=
      I.turnedNew (ch := [z, TI, TO, i1, i2]) (fun c o hb q => hk2 c o (fun m => hb (W_sub m)) (hk c o (fun m => hb (W_sub m)) q)) hf hT new
    refine ⟨.ref T, _, I1, rfl, ⟨T, x, y, rfl, I.hok.fresh hT, rfl, fun l hl => by rw [I.tuple_inj hl hqx]; exact hx, fun l hl => by rw [I.list_inj hl hqy]; exact hy⟩, ⟨hz', hTI', hTO', h1', h2'⟩, fun c hcm => ?_⟩
    have hlt : c < s.heap.objs.size := by
      obtain ⟨x0, y0, hTO⟩ := hTO
      simp only [List.mem_cons, List.not_mem_nil, or_false] at hcm
      rcases hcm with q | q | q | q | q
      · rw [q]; exact Heap.lt_size hz
      · rw [q]; exact Heap.lt_size hTI
      · rw [q]; exact Heap.lt_size hTO
      · rw [q]; obtain ⟨_, e, _⟩ := h1; exact Heap.lt_size e
      · rw [q]; obtain ⟨_, e, _⟩ := h2; exact Heap.lt_size e
    rw [upd_ne (Nat.ne_of_lt (Nat.lt_of_lt_of_le hlt hT))]
    exact (hf c hcm).1
  done := by
    intro X hP hw hK hc i pins s σ H E I hf st hg
    subst hP hw hK
    obtain ⟨hz, hTI, hTO, h1, h2⟩ := st
    obtain ⟨xs, ys, hqx, hqy, l1, l2⟩ := hg
    obtain ⟨its, rv, p, _⟩ := I.tuple hqx
    obtain ⟨its2, rv2, p2, _⟩ := I.list hqy
    have hh : X.A.in1.handled = none := I.ok.hd hc
    have na : a ≠ i1 := tup_it p h1
    have nb : b ≠ i2 := lst_it p2 h2
    have W := WalksT.zipD2 S (Draws.tuple (prog := X.prog) (w := X.w) hh i1 a na its.toArray) (Draws.list (prog := X.prog) (w := X.w) hh i2 b nb its2.toArray)
    have e1 : its.toArray.size = i := by rw [List.size_toArray, ← rv.length, l1]
    have e2 : its2.toArray.size = i := by rw [List.size_toArray, ← rv2.length, l2]
    refine W.done s _ E ?_ fun h' tk hk => ⟨rfl, I.turnedL (ch := [z, TI, TO, i1, i2]) (fun c o hb q => hk c o (fun m => hb (W_sub m)) q) hf⟩
    rw [e1, e2, Nat.min_self]
    exact ⟨hz, hTI, hTO, ⟨h1, p⟩, ⟨h2, p2.isList⟩⟩
  self := fun A i s Q E st h => wpAny_pyIter_zip st.1 h
where
  W_sub {c z TI TO i1 i2 : Addr} (m : c ∈ [z, TO, i1, i2]) : c ∈ [z, TI, TO, i1, i2] := by
    simp only [List.mem_cons, List.not_mem_nil, or_false] at m ⊢
    rcases m with h | h | h | h <;> simp [h]
def iZipTL (K : PySem.W.Frag) (ta : TA) : TI := fun σ H R => ta σ H fun vs H1 => ∃ a b xs ys, vs = [.ref a, .ref b] ∧ SqT K H1 a xs ∧ SqL K H1 b ys ∧ R (ItTL K a b) H1
theorem pi_zipTL {X : Cx} {e e2 : Expr} {ta : TA} {p pos tpos : Pos} {elts : List Expr} {kk : Nat} (hg : Gl X "zip") (hm : X.mg "zip" = none) (ha : PA X [e, e2] ta)
    (hs : starEach [e, e2] X.env = (false, eval e X.env) :: starEach [e2] X.env := by rfl) (hpl : (backTo pos (starEach [e2] X.env)).any (·.1) = false := by rfl) :
    PI X (.Tuple elts kk tpos) (.Call (.Name "zip" p) [e, e2] [] pos) (iZipTL X.K ta) := by
  refine ⟨fun pins s σ H R I h => ?_⟩
  refine Call_ (ld_blt I hg hm PyProof.Rows.boot_zip (PyProof.Rows.callWith_type1 (thn (ha.run pos pins s σ H _ I h) fun us s1 ⟨vs, H1, I1, r1, q1⟩ => ?_) hs hpl))
  obtain ⟨a, b, xs, ys, ex, hqx, hqy, q⟩ := q1
  subst ex
  cases r1 with
  | cons r rr =>
    cases rr with
    | cons r' rr =>
      cases rr
      cases r
      cases r'
      obtain ⟨its, rv, p1, _⟩ := I1.tuple hqx
      obtain ⟨its2, rv2, p2, _⟩ := I1.list hqy
      refine zip_begins2 (begins_tuple a its.toArray) (begins_list b its2.toArray) p1 p2.isList fun h' hz hTI hTO g1 g2 hsz hk => wpAny_pyIter_zip hz ?_
      have I2 : Inv X pins σ H1 { s1 with heap := h' } := I1.kept (t' := s1.toks) hk
      have la : a < s1.heap.objs.size := by obtain ⟨o, ho, _⟩ := p1; exact Heap.lt_size ho
      have lb : b < s1.heap.objs.size := p2.lt
      refine ⟨s1.heap.objs.size + 4, [s1.heap.objs.size + 4, s1.heap.objs.size + 2, s1.heap.objs.size + 3, s1.heap.objs.size, s1.heap.objs.size + 1], _, _, H1, rfl, I2,
        turn_TL (zip_sep2 (fp1 := [a]) (fp2 := [b]) (fun c hc => by rw [List.mem_singleton.mp hc]; exact la) (fun c hc => by rw [List.mem_singleton.mp hc]; exact lb)),
        ⟨hz, hTI, ⟨_, _, hTO⟩, ⟨_, g1, rfl, rfl⟩, ⟨_, g2, rfl, rfl⟩⟩, fun c hcm => ?_, q⟩
      have hle : s1.heap.objs.size ≤ c := by
        simp only [List.mem_cons, List.not_mem_nil, or_false] at hcm
        rcases hcm with z | z | z | z | z <;> rw [z]
        · exact Nat.le_add_right _ _
        · exact Nat.le_add_right _ _
        · exact Nat.le_add_right _ _
        · exact Nat.le_refl _
        · exact Nat.le_add_right _ _
      exact I1.fpOk hle (I1.hok.fresh hle)
/-- the walk of it -/
theorem walk_TL {K : PySem.W.Frag} {a b : Addr} {xs ys : List V} (hl : xs.length = ys.length) : Walk (ItTL K a b) xs.length (fun H => SqT K H a xs ∧ SqL K H b ys) (YPair (fun i => xs[i]?) (fun i => ys[i]?)) := by
  refine ⟨fun i H hi q => ?_, fun H q => ⟨xs, ys, q.1, q.2, rfl, hl.symm⟩, fun i H v H' hi q y => ?_⟩
  · have h2 : i < ys.length := by omega
    exact ⟨xs, ys, xs[i], ys[i], q.1, q.2, by simp [hi], by simp [h2]⟩
  · obtain ⟨T, x, z, h1, h2, h3, h4, h5⟩ := y
    exact ⟨T, x, z, h1, h2, h3, h4 xs q.1, h5 ys q.2⟩
end Fb
set_option Elab.async false
set_option linter.all false
set_option maxRecDepth 100000
set_option maxHeartbeats 4000000
/-! dict(zip(a list, a tuple)). -/
namespace Fb
open PySem PySem.Spec PyProof.Rows L2
section
variable {prog : Program} {w : World} {A : Around} {E : Value → Shared → Prop} {s : Shared} {z TI TO T i1 i2 : Addr} {fp1 fp2 : List Addr} {n1 n2 i : Nat} {P1 P2 : Nat → Value → Prop} {St1 St2 : Nat → Heap → Prop} {f : Bool} {oT : Obj}
/-- next of a zip whose last tuple is still held: a new tuple -/
theorem zipD_held_item {Q : Value → Shared → Prop} (S : ZipSep2 z TI TO i1 i2 fp1 fp2) (D1 : Draws prog w A i1 fp1 n1 P1 St1) (D2 : Draws prog w A i2 fp2 n2 P2 St2)
    (hz : IsZipHeld s.heap z TI TO T f) (hT : s.heap.get? T = some oT) (hTI : IsPair s.heap TI (.ref i1) (.ref i2)) (st1 : St1 i s.heap) (st2 : St2 i s.heap) (hi1 : i < n1) (hi2 : i < n2)
    (hQ : ∀ x y h' tk, P1 i x → P2 i y → IsZipHeld h' z TI TO T true → St1 (i + 1) h' → St2 (i + 1) h' → IsPair h' s.heap.objs.size x y →
      (∀ c o, c ≠ z → c ≠ i1 → c ≠ i2 → s.heap.get? c = some o → h'.get? c = some o) → Q (.ref s.heap.objs.size) { s with heap := h', toks := tk }) :
    wpAny (model prog w) A (Builtin.«zip.__next__» ⟨[.ref z], []⟩) (fun fin s' => ∃ v, fin = .done (.ret v) ∧ Q v s') E s := by
  show wpAny _ _ (field (.ref z) 2 >>= _) _ _ _
  refine wpAny_bind (wpAny_field hz rfl (x := .bool false) rfl ?_)
  show wpAny _ _ (field (.ref z) 3 >>= _) _ _ _
  refine wpAny_bind (wpAny_field hz rfl (x := .ref TI) rfl ?_)
  refine wpAny_bind (wpAny_seqItems hTI rfl ?_)
  show wpAny _ _ (Builtin.SmallTypes.ownedTupleIsFree (.ref z) >>= _) _ _ _
  refine wpAny_bind (wpAny_tupleHeld_zip hz hT fun h₁ hz₁ hs₁ => ?_)
  simp only [Bool.false_eq_true, if_false]
  refine wpAny_bind ?_
  rw [← Array.forIn_toList]
  simp only [List.forIn_cons, List.forIn_nil]
  refine wpAny_bind (wpAny_bind (wpAny_holding ?_))
  show wpAny _ _ (Builtin.SmallTypes.nextOf (.ref i1) >>= _) _ _ _
  refine wpAny_bind (D1.item i { s with heap := h₁ } _ _ hi1 (D1.over st1 hs₁ S.zf1) fun x h₂ tk hx h1₂ hs₂ => wpAny_pure ?_)
  refine wpAny_pure ?_
  refine wpAny_bind (wpAny_bind (wpAny_holding ?_))
  show wpAny _ _ (Builtin.SmallTypes.nextOf (.ref i2) >>= _) _ _ _
  refine wpAny_bind (D2.item i { s with heap := h₂, toks := tk } _ _ hi2 (D2.over (D2.over st2 hs₁ S.zf2) hs₂ S.sep1_2) fun y h₃ tk' hy h2₃ hs₃ => wpAny_pure ?_)
  refine wpAny_pure (wpAny_pure ?_)
  show wpAny _ _ (newTuple [x, y] >>= _) _ _ _
  refine wpAny_bind (wpAny_newTuple ?_)
  have hs₂ : Heap.SameBut i1 h₁ h₂ := hs₂
  have hs₃ : Heap.SameBut i2 h₂ h₃ := hs₃
  have hsz : h₃.objs.size = s.heap.objs.size := by rw [hs₃.1, hs₂.1, hs₁.1]
  have z1 : z ≠ i1 := fun e => S.zf1 (e ▸ S.mem1)
  have z2 : z ≠ i2 := fun e => S.zf2 (e ▸ S.mem2)
  have hz₃ : IsZipHeld h₃ z TI TO T true := hs₃.extBut _ _ z2 (hs₂.extBut _ _ z1 hz₁)
  have hk : ∀ c o, c ≠ z → c ≠ i1 → c ≠ i2 → s.heap.get? c = some o → h₃.get? c = some o := fun c o c1 c2 c3 e => hs₃.extBut _ _ c3 (hs₂.extBut _ _ c2 (hs₁.extBut _ _ c1 e))
  have h1₃ : St1 (i + 1) h₃ := D1.over h1₂ hs₃ S.sep2_1
  refine wpAny_pure ⟨_, rfl, ?_⟩
  show Q (.ref h₃.objs.size) _
  have hp : IsPair (h₃.push { cls := .type "tuple", data := .seq #[x, y] }) h₃.objs.size x y := Heap.get?_push_size _ rfl
  rw [hsz] at hp ⊢
  exact hQ x y _ tk' hx hy (Heap.get?_push_of_some _ hz₃) (D1.frame _ _ _ h1₃ fun b _ o e => Heap.get?_push_of_some _ e) (D2.frame _ _ _ h2₃ fun b _ o e => Heap.get?_push_of_some _ e) hp fun c o c1 c2 c3 e => Heap.get?_push_of_some _ (hk c o c1 c2 c3 e)
/-- .. at the end of both -/
theorem zipD_held_end {Q : Fin → Shared → Prop} (S : ZipSep2 z TI TO i1 i2 fp1 fp2) (D1 : Draws prog w A i1 fp1 n1 P1 St1)
    (hz : IsZipHeld s.heap z TI TO T f) (hT : s.heap.get? T = some oT) (hTI : IsPair s.heap TI (.ref i1) (.ref i2)) (st1 : St1 n1 s.heap)
    (hE : ∀ h' e, (∀ c o, c ≠ z → c ≠ i1 → c ≠ i2 → s.heap.get? c = some o → h'.get? c = some o) → (∃ o, h'.get? e = some o ∧ o.cls = .type "StopIteration") → E (.ref e) { s with heap := h' }) :
    wpAny (model prog w) A (Builtin.«zip.__next__» ⟨[.ref z], []⟩) Q E s := by
  show wpAny _ _ (field (.ref z) 2 >>= _) _ _ _
  refine wpAny_bind (wpAny_field hz rfl (x := .bool false) rfl ?_)
  show wpAny _ _ (field (.ref z) 3 >>= _) _ _ _
  refine wpAny_bind (wpAny_field hz rfl (x := .ref TI) rfl ?_)
  refine wpAny_bind (wpAny_seqItems hTI rfl ?_)
  show wpAny _ _ (Builtin.SmallTypes.ownedTupleIsFree (.ref z) >>= _) _ _ _
  refine wpAny_bind (wpAny_tupleHeld_zip hz hT fun h₁ hz₁ hs₁ => ?_)
  simp only [Bool.false_eq_true, if_false]
  refine wpAny_bind ?_
  rw [← Array.forIn_toList]
  simp only [List.forIn_cons, List.forIn_nil]
  refine wpAny_bind (wpAny_bind (wpAny_holding ?_))
  show wpAny _ _ (Builtin.SmallTypes.nextOf (.ref i1) >>= _) _ _ _
  refine wpAny_bind (D1.done { s with heap := h₁ } _ _ (D1.over st1 hs₁ S.zf1) fun h₂ e hs₂ he => ?_)
  exact hE h₂ e (fun c o c1 c2 _ x => hs₂ _ _ c2 (hs₁.extBut _ _ c1 x)) he
end
section
variable {prog : Program} {w : World} {A : Around} {E : Value → Shared → Prop} {s : Shared} {z TI TO T i1 i2 : Addr} {fp1 fp2 : List Addr} {n1 n2 i : Nat} {P1 P2 : Nat → Value → Prop} {St1 St2 : Nat → Heap → Prop} {f : Bool} {oT : Obj}
theorem next_held_item {Q : Option Value → Shared → Prop} (S : ZipSep2 z TI TO i1 i2 fp1 fp2) (D1 : Draws prog w A.in1 i1 fp1 n1 P1 St1) (D2 : Draws prog w A.in1 i2 fp2 n2 P2 St2)
    (hz : IsZipHeld s.heap z TI TO T f) (hT : s.heap.get? T = some oT) (hTI : IsPair s.heap TI (.ref i1) (.ref i2)) (st1 : St1 i s.heap) (st2 : St2 i s.heap) (hi1 : i < n1) (hi2 : i < n2)
    (hQ : ∀ x y h' tk, P1 i x → P2 i y → IsZipHeld h' z TI TO T true → St1 (i + 1) h' → St2 (i + 1) h' → IsPair h' s.heap.objs.size x y →
      (∀ c o, c ≠ z → c ≠ i1 → c ≠ i2 → s.heap.get? c = some o → h'.get? c = some o) → Q (some (.ref s.heap.objs.size)) { s with heap := h', toks := tk }) :
    wpAny (model prog w) A (pyNext (.ref z)) Q E s := by
  have hTy : s.TypeIs (.ref z) "zip" := ⟨_, hz, rfl⟩
  unfold pyNext
  exact wpAny_bind (wpAny_attempt (wpAny_callSpecial?_slot (name := Str.ofString "__next__") hTy F.slot_zip_next
    (wpAny_call_entry F.slot_zip_next hTy F.entry_zip_next
      (zipD_held_item S D1 D2 hz hT hTI st1 st2 hi1 hi2 fun x y h' tk a1 a2 a3 a4 a5 a6 a7 => wpAny_pure (hQ x y h' tk a1 a2 a3 a4 a5 a6 a7)) (F.args_zip_next_1 _))))
theorem next_held_end {Q : Option Value → Shared → Prop} (S : ZipSep2 z TI TO i1 i2 fp1 fp2) (D1 : Draws prog w A.in1 i1 fp1 n1 P1 St1)
    (hz : IsZipHeld s.heap z TI TO T f) (hT : s.heap.get? T = some oT) (hTI : IsPair s.heap TI (.ref i1) (.ref i2)) (st1 : St1 n1 s.heap)
    (hQ : ∀ h', (∀ c o, c ≠ z → c ≠ i1 → c ≠ i2 → s.heap.get? c = some o → h'.get? c = some o) → Q none { s with heap := h' }) : wpAny (model prog w) A (pyNext (.ref z)) Q E s := by
  have hTy : s.TypeIs (.ref z) "zip" := ⟨_, hz, rfl⟩
  unfold pyNext
  refine wpAny_bind (wpAny_attempt (wpAny_callSpecial?_slot (name := Str.ofString "__next__") hTy F.slot_zip_next
    (wpAny_call_entry F.slot_zip_next hTy F.entry_zip_next (zipD_held_end S D1 hz hT hTI st1 fun h' e hk he => ?_) (F.args_zip_next_1 _))))
  obtain ⟨o, ho, hc⟩ := he
  refine wpAny_bind (wpAny_isInstance (T := "StopIteration") (b := true) ⟨o, ho, hc⟩ isSubtype_stop ?_)
  exact wpAny_pure (hQ _ hk)
end
section
variable {prog : Program} {w : World}
/-- zip(list l1, tuple l2) of one length as the argument of dict -/
theorem pairArg_LT (z TI TO i1 i2 l1 l2 : Addr) (S : ZipSep2 z TI TO i1 i2 [i1, l1] [i2, l2]) (n1 : l1 ≠ i1) (n2 : l2 ≠ i2) (lz : l1 ≠ TI) (xs ys : Array Value) (hl : xs.size = ys.size) :
    PairArg prog w "zip" z [z, TI, TO, i1, i2, l1, l2] [z, TO, i1, i2] xs.size (fun i k v => xs[i]? = some k ∧ ys[i]? = some v)
      (fun h => IsZip h z TI TO .none ∧ IsPair h TI (.ref i1) (.ref i2) ∧ (∃ a b, IsPair h TO a b) ∧ h.IsListIter i1 l1 0 ∧ h.IsTupleIter i2 l2 0 ∧ h.IsList l1 xs ∧ h.IsTuple l2 ys) where
  type := fun s ok => ⟨_, ok.1, rfl⟩
  notDict := by decide
  keep := fun h h' ok hk => by
    obtain ⟨hz, hTI, ⟨a, b, hTO⟩, h1, h2, hl1, hl2⟩ := ok
    exact ⟨hk _ _ hz, hk _ _ hTI, ⟨a, b, hk _ _ hTO⟩, h1.at fun o e => hk _ o e, h2.at fun o e => hk _ o e, hl1.at fun o e => hk _ o e, hl2.at fun o e => hk _ o e⟩
  there := fun h ok b hb => by
    obtain ⟨hz, hTI, ⟨a, c, hTO⟩, ⟨o1, h1, _⟩, ⟨o2, h2, _⟩, ⟨o3, hl1, _⟩, ⟨o4, hl2, _⟩⟩ := ok
    simp only [List.mem_cons, List.not_mem_nil, or_false] at hb
    rcases hb with rfl | rfl | rfl | rfl | rfl | rfl | rfl
    all_goals first | exact ⟨_, hz⟩ | exact ⟨_, hTI⟩ | exact ⟨_, hTO⟩ | exact ⟨_, h1⟩ | exact ⟨_, h2⟩ | exact ⟨_, hl1⟩ | exact ⟨_, hl2⟩
  sub := fun b hb => by simp at hb ⊢; rcases hb with rfl | rfl | rfl | rfl <;> simp
  noKeys := fun A s Q E hA ok h => getAttrOr_miss_zip ok.1 rfl rfl rfl zip_no_keys (by decide +kernel) hA h
  iter := fun A s d Q E hA ok hd hdf h => by
    obtain ⟨hz, hTI, ⟨a, b, hTO⟩, h1, h2, hl1, hl2⟩ := ok
    have hA1 : A.in1.handled = none := hA
    have D1 := Draws.list (prog := prog) (w := w) hA1 i1 l1 n1 xs
    have D2 := Draws.tuple (prog := prog) (w := w) hA1 i2 l2 n2 ys
    simp only [List.mem_cons, List.not_mem_nil, or_false, not_or] at hdf
    obtain ⟨dz, dTI, dTO, di1, di2, dl1, dl2⟩ := hdf
    have z1 : z ≠ i1 := fun e => S.zf1 (e ▸ S.mem1)
    have z2 : z ≠ i2 := fun e => S.zf2 (e ▸ S.mem2)
    refine wpAny_pyIter_zip hz (h z [z, TO, i1, i2] (fun i h => IsPair h TI (.ref i1) (.ref i2) ∧ (h.IsListIter i1 l1 i ∧ h.IsList l1 xs) ∧ (h.IsTupleIter i2 l2 i ∧ h.IsTuple l2 ys) ∧
      ((IsZip h z TI TO .none ∧ ∃ a b, IsPair h TO a b) ∨ ∃ T f oT, IsZipHeld h z TI TO T f ∧ h.get? T = some oT ∧ T ≠ z ∧ T ≠ i1 ∧ T ≠ i2 ∧ T ≠ d)) s.heap s.toks ?_
      ⟨hTI, ⟨h1, hl1⟩, ⟨h2, hl2⟩, .inl ⟨hz, a, b, hTO⟩⟩ (fun _ _ e => e) fun b hb => .inl hb)
    exact {
      off := fun hm => by
        simp only [List.mem_cons, List.not_mem_nil, or_false] at hm
        rcases hm with e | e | e | e
        · exact dz e
        · exact dTO e
        · exact di1 e
        · exact di2 e
      frame := fun i h₁ h₂ st hk => by
        obtain ⟨hTI, h1, h2, hz⟩ := st
        refine ⟨hk _ _ (Ne.symm dTI) hTI, ⟨h1.1.at fun o e => hk _ o (Ne.symm di1) e, h1.2.at fun o e => hk _ o (Ne.symm dl1) e⟩, ⟨h2.1.at fun o e => hk _ o (Ne.symm di2) e, h2.2.at fun o e => hk _ o (Ne.symm dl2) e⟩, ?_⟩
        rcases hz with ⟨hz, a, b, hTO⟩ | ⟨T, f, oT, hz, hT, r1, r2, r3, r4⟩
        · exact .inl ⟨hk _ _ (Ne.symm dz) hz, a, b, hk _ _ (Ne.symm dTO) hTO⟩
        · exact .inr ⟨T, f, oT, hk _ _ (Ne.symm dz) hz, hk _ _ r4 hT, r1, r2, r3, r4⟩
      item := fun i s₁ Q₁ E₁ hi st hds hQ => by
        obtain ⟨hTI, h1, h2, hz⟩ := st
        have hiy : i < ys.size := by omega
        have lt : ∀ {c o}, s₁.heap.get? c = some o → s₁.heap.objs.size ≠ c := fun e => Nat.ne_of_gt (Heap.lt_size e)
        have m1 : s₁.heap.objs.size ≠ i1 := let ⟨_, e, _⟩ := h1.1; lt e
        have m2 : s₁.heap.objs.size ≠ i2 := let ⟨_, e, _⟩ := h2.1; lt e
        rcases hz with ⟨hz, a, b, hTO⟩ | ⟨T, f, oT, hz, hT, r1, r2, r3, r4⟩
        · refine wpAny_pyNext_zipD2_item S D1 D2 hz hTI hTO h1 h2 hi hiy fun x y h' tk ex ey a1 a2 a3 a4 a5 a6 hk => ?_
          exact hQ s₁.heap.objs.size _ _ h' tk ⟨ex, ey⟩ (.inl ⟨_, a5, rfl, _, rfl⟩)
            ⟨hk _ _ S.TIz S.TITO S.TIi1 S.TIi2 hTI, a3, a4, .inr ⟨s₁.heap.objs.size, false, _, a1, a5, lt hz, m1, m2, Nat.ne_of_gt hds⟩⟩
            fun c o hc e => hk c o (fun x => hc (by simp [x])) (fun x => hc (by simp [x])) (fun x => hc (by simp [x])) (fun x => hc (by simp [x])) e
        · refine next_held_item S D1 D2 hz hT hTI h1 h2 hi hiy fun x y h' tk ex ey a1 a3 a4 a5 hk => ?_
          exact hQ s₁.heap.objs.size _ _ h' tk ⟨ex, ey⟩ (.inl ⟨_, a5, rfl, _, rfl⟩)
            ⟨hk _ _ S.TIz S.TIi1 S.TIi2 hTI, a3, a4, .inr ⟨T, true, oT, a1, hk _ _ r1 r2 r3 hT, r1, r2, r3, r4⟩⟩
            fun c o hc e => hk c o (fun x => hc (by simp [x])) (fun x => hc (by simp [x])) (fun x => hc (by simp [x])) e
      done := fun s₁ Q₁ E₁ st hQ => by
        obtain ⟨hTI, h1, h2, hz⟩ := st
        rcases hz with ⟨hz, a, b, hTO⟩ | ⟨T, f, oT, hz, hT, r1, r2, r3, r4⟩
        · exact wpAny_pyNext_zipD2_end S D1 D2 hz hTI hTO h1 h2 (Nat.le_refl _) (Nat.le_of_eq hl) (.inl rfl) fun h' tk hk => hQ h' tk fun c o hc e => hk c o (fun x => hc (by simp [x])) (fun x => hc (by simp [x])) (fun x => hc (by simp [x])) (fun x => hc (by simp [x])) e
        · exact next_held_end S D1 hz hT hTI h1 fun h' hk => hQ h' s₁.toks fun c o hc e => hk c o (fun x => hc (by simp [x])) (fun x => hc (by simp [x])) (fun x => hc (by simp [x])) e }
end
/-! ### dict(zip(e, e2)) of a list of texts and a tuple -/
def tDictZip (K : PySem.W.Frag) (ta : TA) : TE := fun σ H Q => ta σ H fun xs H2 => ∃ (a b : Addr) (ks : List Str) (vs : List V), xs = [.ref a, .ref b] ∧ SqL K H2 a (ks.map V.str) ∧ SqT K H2 b vs ∧ ks.length = vs.length ∧
  ∀ p, H2 p = none → Q (.ref p) (upd H2 p (.dK (mergeK [] (List.zip (ks.map Sum.inr) vs))))
theorem pairs_rel {ks : List Str} : ∀ {vs : List V} {us ws : List Value}, Vals (ks.map V.str) us → Vals vs ws → ks.length = vs.length → KV (((ks.map Sum.inr).zip vs : List (Key × V))) ((ks.map Sum.inr).zip ws) := by
  induction ks with
  | nil => intro vs us ws r r2 hl; cases vs with
    | nil => cases r2; exact .nil
    | cons _ _ => simp at hl
  | cons k ks ih =>
    intro vs us ws r r2 hl
    cases r2 with
    | nil => simp at hl
    | cons h t =>
      cases r with
      | cons h' t' => exact .cons ⟨rfl, h⟩ (ih t' t (by simpa using hl))
theorem pe_dictzip {X : Cx} {e e2 : Expr} {ta : TA} {p p2 pos pos2 : Pos} (hc : X.calm = true) (hgd : Gl X "dict") (hmd : X.mg "dict" = none) (hg : Gl X "zip") (hm : X.mg "zip" = none) (ha : PA X [e, e2] ta)
    (hs : starEach [e, e2] X.env = (false, eval e X.env) :: starEach [e2] X.env := by rfl) (hpl : (backTo pos2 (starEach [e2] X.env)).any (·.1) = false := by rfl)
    (he : starEach [Expr.Call (.Name "zip" p2) [e, e2] [] pos2] X.env = (false, eval (.Call (.Name "zip" p2) [e, e2] [] pos2) X.env) :: starEach [] X.env := by rfl) (hpl2 : (backTo pos (starEach [] X.env)).any (·.1) = false := by rfl) :
    PE X (.Call (.Name "dict" p) [.Call (.Name "zip" p2) [e, e2] [] pos2] [] pos) (tDictZip X.K ta) := by
  refine ⟨fun pins s σ H Q I h => ?_⟩
  refine wpAny_Call_Name_kw (ld_blt I hgd hmd PyProof.Rows.boot_dict ?_)
  refine PyProof.Rows.callWith_type1 ?_ he hpl2
  rw [he]
  show wpAny _ _ (spliced ((false, eval _ X.env) :: backTo pos (starEach [] X.env))) _ _ s
  refine Calls.spliced_cons ?_
  refine Call_ (ld_blt I hg hm PyProof.Rows.boot_zip (PyProof.Rows.callWith_type1 (thn (ha.run pos2 pins s σ H _ I h) fun us s1 ⟨xs, H1, I1, r1, q1⟩ => ?_) hs hpl))
  obtain ⟨a, b, ks, vs, rfl, hqx, hqy, hl, q⟩ := q1
  cases r1 with
  | cons r rr =>
    cases rr with
    | cons r' rr =>
      cases rr
      cases r
      cases r'
      obtain ⟨its, rv, p1, _⟩ := I1.list hqx
      obtain ⟨its2, rv2, p3, hz2⟩ := I1.tuple hqy
      refine zip_begins2 (begins_list a its.toArray) (begins_tuple b its2.toArray) p1.isList p3 fun h' hz hTI hTO g1 g2 hsz hk => Calls.spliced_nil ?_
      have la : a < s1.heap.objs.size := p1.lt
      have lb : b < s1.heap.objs.size := by obtain ⟨o, ho, _⟩ := p3; exact Heap.lt_size ho
      have l1 := rv.length
      have l2 := rv2.length
      rw [List.length_map] at l1
      have S := zip_sep2 (N := s1.heap.objs.size) (fp1 := [a]) (fp2 := [b]) (fun c hc => by rw [List.mem_singleton.mp hc]; exact la) (fun c hc => by rw [List.mem_singleton.mp hc]; exact lb)
      have PA := pairArg_LT (prog := X.prog) (w := X.w) (s1.heap.objs.size + 4) (s1.heap.objs.size + 2) (s1.heap.objs.size + 3) s1.heap.objs.size (s1.heap.objs.size + 1) a b S (Nat.ne_of_lt la) (Nat.ne_of_lt (Nat.lt_succ_of_lt lb)) (Nat.ne_of_lt (Nat.lt_of_lt_of_le la (Nat.le_add_right _ _))) its.toArray its2.toArray (by simp; omega)
      refine PySem.call_dict_pairs (knd := mixKind X.prog X.w) (kvs := List.zip (ks.map Sum.inr) its2) PA (I1.ok.hd hc)
        ⟨hz, hTI, ⟨_, _, hTO⟩, ⟨_, g1, rfl, rfl⟩, ⟨_, g2, rfl, rfl⟩, p1.isList.at fun o e => hk _ o e, by obtain ⟨o, ho, r⟩ := p3; exact ⟨o, hk _ _ ho, r⟩⟩ ⟨?_, ?_⟩ ?_ fun h2 tk hd hk2 => ?_
      · simp; omega
      · rintro i key v ⟨e1, e2⟩
        have e1' : its[i]? = some key := by simpa using e1
        have e2' : its2[i]? = some v := by simpa using e2
        have hi : i < ks.length := by rw [l1]; exact (List.getElem?_eq_some_iff.mp e1').1
        obtain ⟨u, hu, ru⟩ := rv.get (i := i) (x := .str ks[i]) (by simp [hi])
        rw [e1'] at hu
        cases hu
        refine ⟨Sum.inr ks[i], ?_, kV_is (k := Sum.inr ks[i]) ru⟩
        rw [List.getElem?_zip_eq_some]
        exact ⟨by simp [hi], e2'⟩
      · simp; omega
      · have hm' : ((s1.heap.objs.size + 5) == sysModules) = false := beq_eq_false_iff_ne.mpr (Nat.ne_of_gt (Nat.lt_of_lt_of_le I1.big (Nat.le_add_right _ _)))
        have es : h'.objs.size = s1.heap.objs.size + 5 := hsz
        have hd : h2.DictOf (mixKind X.prog X.w) h'.objs.size (merged [] (List.zip (ks.map Sum.inr) its2)) := hd
        rw [es] at hd
        show EP X pins σ Q (.ref h'.objs.size) _
        rw [es]
        have hlen : (mergeK [] (List.zip (ks.map Sum.inr) vs)).length ≤ sizeLine := by
          refine Nat.le_trans (length_mergeK _ []) ?_
          simp; omega
        have kk : ∀ c u, s1.heap.get? c = some u → h2.get? c = some u := fun c u e => hk2 c u (fun hm => by
          have hlt := Heap.lt_size e
          simp only [List.mem_cons, List.not_mem_nil, or_false] at hm
          rcases hm with z | z | z | z <;> rw [z] at hlt
          · exact absurd hlt (Nat.not_lt.mpr (Nat.le_add_right _ _))
          · exact absurd hlt (Nat.not_lt.mpr (Nat.le_add_right _ _))
          · exact Nat.lt_irrefl _ hlt
          · exact absurd hlt (Nat.not_lt.mpr (Nat.le_add_right _ _))) (hk c u e)
        have hf : H1 (s1.heap.objs.size + 5) = none := I1.hok.fresh (Nat.le_add_right _ _)
        exact ⟨.ref (s1.heap.objs.size + 5), _, I1.laid (t' := tk) kk (Nat.le_add_right _ _) (show ObjOk X.prog X.w _ _ _ (.dK (mergeK [] (List.zip (ks.map Sum.inr) vs))) from ⟨hlen, hm', _, KV.merge (pairs_rel rv rv2 hl) .nil, hd⟩), rfl, q _ hf⟩
end Fb
set_option Elab.async false
set_option linter.all false
set_option maxRecDepth 100000
set_option maxHeartbeats 4000000
/-! Short words for the walks. -/
namespace Fb
open PySem PySem.Spec PyProof.Rows L2
/-- a whole number that is not negative -/
abbrev nV (n : Nat) : V := .int (n : Int)
/-- numbers as values -/
def nVs (l : List Nat) : List V := l.map nV
def iVs (l : List Int) : List V := l.map V.int
def sVs (l : List Str) : List V := l.map V.str
theorem nVs_len (l : List Nat) : (nVs l).length = l.length := List.length_map _
theorem iVs_len (l : List Int) : (iVs l).length = l.length := List.length_map _
theorem sVs_len (l : List Str) : (sVs l).length = l.length := List.length_map _
theorem nVs_get {l : List Nat} {i : Nat} : (nVs l)[i]? = (l[i]?).map nV := List.getElem?_map ..
theorem iVs_get {l : List Int} {i : Nat} : (iVs l)[i]? = (l[i]?).map V.int := List.getElem?_map ..
theorem sVs_get {l : List Str} {i : Nat} : (sVs l)[i]? = (l[i]?).map V.str := List.getElem?_map ..
theorem nVs_some {l : List Nat} {i : Nat} {v : V} (h : (nVs l)[i]? = some v) : ∃ n, l[i]? = some n ∧ v = nV n := by
  rw [nVs_get] at h
  obtain ⟨n, hn, rfl⟩ := Option.map_eq_some_iff.mp h
  exact ⟨n, hn, rfl⟩
/-- all but the objects at W stand as they stood -/
def Off (W : List Addr) (H H' : Hp) : Prop := ∀ b o, b ∉ W → H b = some o → H' b = some o
theorem Off.same {H H' : Hp} (h : Off [] H H') : Same H H' := fun b o e => h b o (by simp) e
theorem Same.off {W : List Addr} {H H' : Hp} (h : Same H H') : Off W H H' := fun b o _ e => h b o e
theorem Off.refl {W : List Addr} {H : Hp} : Off W H H := fun _ _ _ h => h
theorem Off.trans {W : List Addr} {H H1 H2 : Hp} (a : Off W H H1) (b : Off W H1 H2) : Off W H H2 := fun c o n h => b c o n (a c o n h)
theorem Off.mono {W W' : List Addr} {H H' : Hp} (a : Off W H H') (h : ∀ b, b ∈ W → b ∈ W') : Off W' H H' := fun c o n e => a c o (fun z => n (h c z)) e
theorem Same.new {H : Hp} {p : Addr} {o : HO} (h : H p = none) : Same H (upd H p o) := fun b u q => by rw [upd_ne (ne_of_none q h)]; exact q
theorem Off.put {W : List Addr} {H : Hp} {p : Addr} {o : HO} (h : p ∈ W) : Off W H (upd H p o) := fun b u n q => by
  have hb : b ≠ p := fun e => n (by rw [e]; exact h)
  rw [upd_ne hb]; exact q
/-- the heap without the objects at W -/
def cut (W : List Addr) (H : Hp) : Hp := fun b => if b ∈ W then none else H b
theorem cut_some {W : List Addr} {H : Hp} {b : Addr} {o : HO} : cut W H b = some o ↔ b ∉ W ∧ H b = some o := by
  unfold cut
  by_cases h : b ∈ W
  · simp [h]
  · simp [h]
theorem cut_same {W : List Addr} {H : Hp} : Same (cut W H) H := fun b o e => (cut_some.mp e).2
theorem Off.cut {W : List Addr} {H H' : Hp} (h : Off W H H') : Same (cut W H) (cut W H') := fun b o e => by
  obtain ⟨n, q⟩ := cut_some.mp e
  exact cut_some.mpr ⟨n, h b o n q⟩
theorem Off.of_cut {W : List Addr} {H H' : Hp} (h : Off W H H') : Same (Fb.cut W H) H' := fun b o e => by
  obtain ⟨n, q⟩ := cut_some.mp e
  exact h b o n q
theorem at_nV {l : List Nat} {i n : Nat} (h : l[i]? = some n) : atI (nVs l) (i : Int) = some (nV n) := atI_nat (by rw [nVs_get, h]; rfl)
theorem at_iV {l : List Int} {i : Nat} {n : Int} (h : l[i]? = some n) : atI (iVs l) (i : Int) = some (.int n) := atI_nat (by rw [iVs_get, h]; rfl)
theorem at_sV {l : List Str} {i : Nat} {n : Str} (h : l[i]? = some n) : atI (sVs l) (i : Int) = some (.str n) := atI_nat (by rw [sVs_get, h]; rfl)
theorem getD_some {l : List Nat} {p : Nat} (h : p < l.length) : l[p]? = some (l.getD p 0) := by
  rw [List.getD_eq_getElem?_getD, List.getElem?_eq_getElem h]; rfl
theorem mem_at {l : List Nat} {i p : Nat} (h : l[i]? = some p) : p ∈ l := List.mem_of_getElem? h
/-- the reading of a tuple of whole numbers -/
abbrev NT (H : Hp) (b : Addr) (ps : List Nat) : Prop := H b = some (.tup (nVs ps))
abbrev NL (H : Hp) (b : Addr) (ps : List Nat) : Prop := H b = some (.lst (nVs ps))
theorem cmul_l {i j : Int} (h : -(2 ^ 64) < i ∧ i < 2 ^ 64) : CMul i j := .inl h
theorem cmul_r {i j : Int} (h : -(2 ^ 64) < j ∧ j < 2 ^ 64) : CMul i j := .inr h
/-! ### what stands in the heap -/
section
variable {α β : Type} {F : α → β → Prop}
theorem Paired.ofR : ∀ {xs : List α} {ys : List β} {i : Nat} {y : β}, Paired F xs ys → ys[i]? = some y → ∃ x, xs[i]? = some x ∧ F x y
  | _, _, _, _, .nil, h => by simp at h
  | _, _, 0, _, .cons h _, e => by simp at e; subst e; exact ⟨_, rfl, h⟩
  | _, _, i + 1, y, .cons _ t, e => by
    obtain ⟨x, h1, h2⟩ := Paired.ofR (i := i) (y := y) t (by simpa using e)
    exact ⟨x, by simpa using h1, h2⟩
theorem Paired.ofL : ∀ {xs : List α} {ys : List β} {i : Nat} {x : α}, Paired F xs ys → xs[i]? = some x → ∃ y, ys[i]? = some y ∧ F x y
  | _, _, _, _, .nil, h => by simp at h
  | _, _, 0, _, .cons h _, e => by simp at e; subst e; exact ⟨_, rfl, h⟩
  | _, _, i + 1, x, .cons _ t, e => by
    obtain ⟨y, h1, h2⟩ := Paired.ofL (i := i) (x := x) t (by simpa using e)
    exact ⟨y, by simpa using h1, h2⟩
theorem Paired.memL : ∀ {xs : List α} {ys : List β} {x : α}, Paired F xs ys → x ∈ xs → ∃ y, y ∈ ys ∧ F x y := fun p m => by
  obtain ⟨i, hi⟩ := List.mem_iff_getElem?.mp m
  obtain ⟨y, h1, h2⟩ := Paired.ofL p hi
  exact ⟨y, List.mem_of_getElem? h1, h2⟩
end
abbrev Bun := BunK Str
def EntV (H : Hp) (v : V) (e : Ent) : Prop := ∃ a b, v = .ref a ∧ H a = some (.tup [.int e.1, .ref b]) ∧ NT H b e.2
def EntsL (H : Hp) (l : Addr) (es : List Ent) : Prop := ∃ vs, H l = some (.lst vs) ∧ Paired (EntV H) vs es
def BunV (H : Hp) (v : V) (b : Bun) : Prop := ∃ a l, v = .ref a ∧ H a = some (.tup [.str b.1, .ref l]) ∧ EntsL H l b.2
def BunsL (H : Hp) (l : Addr) (B : List Bun) : Prop := ∃ vs, H l = some (.lst vs) ∧ Paired (BunV H) vs B
section
variable {H H' : Hp}
theorem EntV.mono (e : Same H H') {v : V} {x : Ent} (h : EntV H v x) : EntV H' v x := by
  obtain ⟨a, b, h1, h2, h3⟩ := h
  exact ⟨a, b, h1, e _ _ h2, e _ _ h3⟩
theorem EntsL.mono (e : Same H H') {l : Addr} {es : List Ent} (h : EntsL H l es) : EntsL H' l es := by
  obtain ⟨vs, h1, h2⟩ := h
  exact ⟨vs, e _ _ h1, Paired.mapP h2 fun _ _ z => z.mono e⟩
theorem BunV.mono (e : Same H H') {v : V} {x : Bun} (h : BunV H v x) : BunV H' v x := by
  obtain ⟨a, b, h1, h2, h3⟩ := h
  exact ⟨a, b, h1, e _ _ h2, h3.mono e⟩
theorem BunsL.mono (e : Same H H') {l : Addr} {B : List Bun} (h : BunsL H l B) : BunsL H' l B := by
  obtain ⟨vs, h1, h2⟩ := h
  exact ⟨vs, e _ _ h1, Paired.mapP h2 fun _ _ z => z.mono e⟩
theorem BunsL.at {l : Addr} {B : List Bun} (h : BunsL H l B) {n : Nat} {b : Bun} (hb : B[n]? = some b) : ∃ vs a q, H l = some (.lst vs) ∧ vs.length = B.length ∧ vs[n]? = some (.ref a) ∧ H a = some (.tup [.str b.1, .ref q]) ∧ EntsL H q b.2 := by
  obtain ⟨vs, h1, h2⟩ := h
  obtain ⟨v, h3, a, q, rfl, h4, h5⟩ := Paired.ofR h2 hb
  exact ⟨vs, a, q, h1, Paired.length h2, h3, h4, h5⟩
end
def optV : Option Str → V
  | none => .non
  | some x => .str x
def optL : Option Str → Leaf
  | none => .none
  | some x => .text x
theorem optL_V (o : Option Str) : leafV (optL o) = optV o := by cases o <;> rfl
def KidsAt (P : Program) (w : World) (H : Hp) (d : Addr) (ps : Prs Str) : Prop := ∃ kvs, H d = some (LfO P w d kvs) ∧ ∀ o : Option Str, (∀ c, o = some c → ∃ q, (c, q) ∈ ps) → ∃ l, valV kvs (optL o) = some (.ref l) ∧ H l = some (.lst (sVs (kidsOf ps o)))
abbrev fT (d1 d2 d3 : Addr) : List (Str × V) := [("overs", .ref d1), ("kids", .ref d2), ("order", .ref d3)]
abbrev fF (t l r : Addr) : List (Str × V) := [("shape", .ref t), ("held", .ref l), ("roots", .ref r)]
def ovs (ps : Prs Str) : List (Key × V) := ps.map fun p => (Sum.inr p.1, optV p.2)
def TreeAt (P : Program) (w : World) (C : Addr) (H : Hp) (t : Addr) (ps : Prs Str) : Prop := ∃ dx d1 d2 d3, H t = some (.ins C dx (fT d1 d2 d3)) ∧ H d1 = some (.dK (ovs ps)) ∧ KidsAt P w H d2 ps ∧ H d3 = some (.lst (sVs (order ps)))
def FoldAt (P : Program) (w : World) (C D : Addr) (H : Hp) (f : Addr) (ps : Prs Str) (B : List Bun) (tops : List Nat) : Prop := ∃ dx t l r, H f = some (.ins C dx (fF t l r)) ∧ TreeAt P w D H t ps ∧ BunsL H l B ∧ NT H r tops
section
variable {P : Program} {w : World} {C D : Addr} {H H' : Hp} {ps : Prs Str} {B : List Bun} {tops : List Nat}
theorem KidsAt.mono (e : Same H H') {d : Addr} (h : KidsAt P w H d ps) : KidsAt P w H' d ps := by
  obtain ⟨kvs, h1, h2⟩ := h
  exact ⟨kvs, e _ _ h1, fun o ho => let ⟨l, a, b⟩ := h2 o ho; ⟨l, a, e _ _ b⟩⟩
theorem TreeAt.mono (e : Same H H') {t : Addr} (h : TreeAt P w C H t ps) : TreeAt P w C H' t ps := by
  obtain ⟨dx, d1, d2, d3, h1, h2, h3, h4⟩ := h
  exact ⟨dx, d1, d2, d3, e _ _ h1, e _ _ h2, h3.mono e, e _ _ h4⟩
theorem FoldAt.mono (e : Same H H') {f : Addr} (h : FoldAt P w C D H f ps B tops) : FoldAt P w C D H' f ps B tops := by
  obtain ⟨dx, t, l, r, h1, h2, h3, h4⟩ := h
  exact ⟨dx, t, l, r, e _ _ h1, h2.mono e, h3.mono e, e _ _ h4⟩
end
/-- what comes back is a list, a tuple of just these; all stands as it stood -/
def BackL (H : Hp) (Q : VK) (xs : List V) : Prop := ∀ l H', H l = none → Same H H' → H' l = some (.lst xs) → Q (.ref l) H'
def BackT (H : Hp) (Q : VK) (xs : List V) : Prop := ∀ a H', Same H H' → H' a = some (.tup xs) → Q (.ref a) H'
def BackV (H : Hp) (Q : VK) (v : V) : Prop := ∀ H', Same H H' → Q v H'
end Fb
set_option Elab.async false
set_option linter.all false
set_option maxRecDepth 100000
set_option maxHeartbeats 4000000
/-! Comprehensions: what they make, element by element. -/
namespace Fb
open PySem PySem.Spec PyProof.Rows L2
theorem big {n : Nat} (h : n ≤ 100000) : n < sizeLine := Nat.lt_of_le_of_lt h (by decide)
theorem big' {n : Nat} (h : n ≤ 100000) : n ≤ sizeLine := Nat.le_of_lt (big h)
theorem cut_upd {D : Addr} {H : Hp} {o : HO} : cut [D] (upd H D o) = cut [D] H := by
  funext b
  unfold cut
  by_cases h : b = D
  · simp [h]
  · simp [h, upd_ne h]
theorem Same.cutD {H H' : Hp} (e : Same H H') (D : Addr) : Same (cut [D] H) (cut [D] H') := (Same.off e).cut
theorem cutD {H : Hp} {D b : Addr} {o : HO} (h : H b = some o) (hn : b ≠ D) : cut [D] H b = some o := cut_some.mpr ⟨by simpa using hn, h⟩
section
variable {J : It} {n : Nat} {G : Hp → Prop} {Y : Nat → Hp → V → Hp → Prop} {g : TG} {tt : TT} {te : TE} {vs : List Nat} {σ : L2.St} {H : Hp} {D : Addr} {Qd : Hp → Prop}
/-- the tests hold; element i is told by R i, that does not hang on the list being made -/
theorem lc_rel (w : Walk J n G Y) {R : Nat → V → Hp → Prop} (mono : ∀ k v H1 H2, Same H1 H2 → R k v H1 → R k v H2) (hD : H D = none) (hn : n ≤ 100000) (hG : ∀ H', Same H H' → G H')
    (hs : ∀ i x H1 H2 acc, i < n → Same H H1 → H1 D = some (.lst acc) → Y i H1 x H2 → Same H1 H2 ∧ ∀ (Q' : VK) (F : Hp → Prop), (∀ v H3, Same H2 H3 → R i v (cut [D] H3) → Q' v H3) →
      g x (wipe σ vs) H2 fun σ2 H3 => wipe σ2 vs = wipe σ vs ∧ tt σ2 H3 fun b H4 => if b = true then te σ2 H4 Q' else F H4)
    (hd : ∀ us H', Same H H' → H' D = some (.lst us) → us.length = n → (∀ k v, us[k]? = some v → R k v (cut [D] H')) → Qd H') :
    ∃ W : Nat → Nat → Hp → Prop, (∃ m, W 0 m (upd H D (.lst []))) ∧ ∀ i m H, W i m H →
      (J.stop i H ∧ Qd H) ∨ (J.go i H ∧ ∃ Nx : Hp → Prop, (∀ H', Nx H' → ∃ m', m' < m ∧ W (i + 1) m' H') ∧ ∀ x H', J.yld i H x H' → g x (wipe σ vs) H' fun σ2 H2 => wipe σ2 vs = wipe σ vs ∧ tt σ2 H2 fun b H3 =>
        if b = true then te σ2 H3 fun y H4 => ∃ acc, H4 D = some (.lst acc) ∧ acc.length < sizeLine ∧ Nx (upd H4 D (.lst (acc ++ [y]))) else Nx H3) := by
  refine lc_it w (fun i H' => ∃ us, Same H H' ∧ H' D = some (.lst us) ∧ us.length = i ∧ ∀ k v, us[k]? = some v → R k v (cut [D] H')) ?_ ?_ ?_ ?_
  · exact ⟨[], Same.new hD, upd_same, rfl, fun k v e => by simp at e⟩
  · rintro i H' hi ⟨us, s, _⟩
    exact hG H' s
  · rintro i x H1 H2 hi ⟨us, s1, hl, hz, hr⟩ y
    obtain ⟨s2, hh⟩ := hs i x H1 H2 us hi s1 hl y
    refine hh _ _ fun v H3 s3 rv => ?_
    have hl3 : H3 D = some (.lst us) := s3 _ _ (s2 _ _ hl)
    refine ⟨us, hl3, big (by omega), us ++ [v], ?_, upd_same, by simp [hz], ?_⟩
    · intro b o e
      rw [upd_ne (ne_of_none e hD)]
      exact s3 _ _ (s2 _ _ (s1 _ _ e))
    · intro k u e
      rw [cut_upd]
      by_cases hk : k < us.length
      · rw [List.getElem?_append_left hk] at e
        exact mono _ _ _ _ (Same.cutD (s2.trans s3) D) (hr k u e)
      · have hk2 : k < (us ++ [v]).length := (List.getElem?_eq_some_iff.mp e).1
        have hk3 : k = us.length := by simp at hk2; omega
        subst hk3
        simp at e
        subst e
        rw [hz]
        exact rv
  · rintro H' ⟨us, s, hl, hz, hr⟩
    exact hd us H' s hl hz hr
/-- element i is f i -/
theorem lc_map (w : Walk J n G Y) (f : Nat → V) (hD : H D = none) (hn : n ≤ 100000) (hG : ∀ H', Same H H' → G H')
    (hs : ∀ i x H1 H2, i < n → Same H H1 → Y i H1 x H2 → Same H1 H2 ∧ ∀ (Q' : VK) (F : Hp → Prop), (∀ H3, Same H2 H3 → Q' (f i) H3) →
      g x (wipe σ vs) H2 fun σ2 H3 => wipe σ2 vs = wipe σ vs ∧ tt σ2 H3 fun b H4 => if b = true then te σ2 H4 Q' else F H4)
    (hd : ∀ H', Same H H' → H' D = some (.lst ((List.range n).map f)) → Qd H') :
    ∃ W : Nat → Nat → Hp → Prop, (∃ m, W 0 m (upd H D (.lst []))) ∧ ∀ i m H, W i m H →
      (J.stop i H ∧ Qd H) ∨ (J.go i H ∧ ∃ Nx : Hp → Prop, (∀ H', Nx H' → ∃ m', m' < m ∧ W (i + 1) m' H') ∧ ∀ x H', J.yld i H x H' → g x (wipe σ vs) H' fun σ2 H2 => wipe σ2 vs = wipe σ vs ∧ tt σ2 H2 fun b H3 =>
        if b = true then te σ2 H3 fun y H4 => ∃ acc, H4 D = some (.lst acc) ∧ acc.length < sizeLine ∧ Nx (upd H4 D (.lst (acc ++ [y]))) else Nx H3) := by
  refine lc_rel w (R := fun k v _ => v = f k) (fun _ _ _ _ _ h => h) hD hn hG (fun i x H1 H2 acc hi s1 hl y => ?_) fun us H' s hl hz hr => hd H' s ?_
  · obtain ⟨s2, hh⟩ := hs i x H1 H2 hi s1 y
    exact ⟨s2, fun Q' F hq => hh Q' F fun H3 s3 => hq _ H3 s3 rfl⟩
  · rw [hl]
    congr 2
    apply List.ext_getElem?
    intro k
    by_cases hk : k < us.length
    · rw [List.getElem?_eq_getElem hk, List.getElem?_map, List.getElem?_range (by omega)]
      show _ = some (f k)
      rw [hr k _ (List.getElem?_eq_getElem hk)]
    · rw [List.getElem?_eq_none (by omega), List.getElem?_eq_none (by simp; omega)]
/-- those i whose test p i holds, each as f i -/
theorem lc_fil (w : Walk J n G Y) (p : Nat → Bool) (f : Nat → V) (hD : H D = none) (hn : n ≤ 100000) (hG : ∀ H', Same H H' → G H')
    (hs : ∀ i x H1 H2, i < n → Same H H1 → Y i H1 x H2 → Same H1 H2 ∧ ∀ (Q' : VK) (F : Hp → Prop), (p i = true → ∀ H3, Same H2 H3 → Q' (f i) H3) → (p i = false → ∀ H3, Same H2 H3 → F H3) →
      g x (wipe σ vs) H2 fun σ2 H3 => wipe σ2 vs = wipe σ vs ∧ tt σ2 H3 fun b H4 => if b = true then te σ2 H4 Q' else F H4)
    (hd : ∀ H', Same H H' → H' D = some (.lst (((List.range n).filter p).map f)) → Qd H') :
    ∃ W : Nat → Nat → Hp → Prop, (∃ m, W 0 m (upd H D (.lst []))) ∧ ∀ i m H, W i m H →
      (J.stop i H ∧ Qd H) ∨ (J.go i H ∧ ∃ Nx : Hp → Prop, (∀ H', Nx H' → ∃ m', m' < m ∧ W (i + 1) m' H') ∧ ∀ x H', J.yld i H x H' → g x (wipe σ vs) H' fun σ2 H2 => wipe σ2 vs = wipe σ vs ∧ tt σ2 H2 fun b H3 =>
        if b = true then te σ2 H3 fun y H4 => ∃ acc, H4 D = some (.lst acc) ∧ acc.length < sizeLine ∧ Nx (upd H4 D (.lst (acc ++ [y]))) else Nx H3) := by
  refine lc_it w (fun i H' => Same H H' ∧ H' D = some (.lst (((List.range i).filter p).map f))) ⟨Same.new hD, upd_same⟩ (fun i H' hi h => hG H' h.1) ?_ fun H' h => hd H' h.1 h.2
  rintro i x H1 H2 hi ⟨s1, hl⟩ y
  obtain ⟨s2, hh⟩ := hs i x H1 H2 hi s1 y
  refine hh _ _ (fun hp H3 s3 => ?_) fun hp H3 s3 => ?_
  · refine ⟨_, s3 _ _ (s2 _ _ hl), ?_, ?_, ?_⟩
    · rw [List.length_map]
      refine big (Nat.le_trans (List.length_filter_le _ _) ?_)
      rw [List.length_range]; omega
    · intro b o e
      rw [upd_ne (ne_of_none e hD)]
      exact s3 _ _ (s2 _ _ (s1 _ _ e))
    · rw [upd_same, List.range_succ, List.filter_append, List.map_append]
      simp [hp]
  · refine ⟨s1.trans (s2.trans s3), ?_⟩
    rw [s3 _ _ (s2 _ _ hl), List.range_succ, List.filter_append, List.map_append]
    simp [hp]
end
/-- the yield of a list or tuple leaves the heap -/
theorem yat {xs : List V} {i : Nat} {H1 H2 : Hp} {x : V} (y : YAt xs i H1 x H2) : H2 = H1 ∧ xs[i]? = some x := y
theorem range_map_get (l : List V) : (List.range l.length).map (fun i => l.getD i .non) = l := by
  apply List.ext_getElem?
  intro k
  by_cases hk : k < l.length
  · rw [List.getElem?_map, List.getElem?_range hk, List.getElem?_eq_getElem hk]
    simp [hk]
  · rw [List.getElem?_eq_none (by simp; omega), List.getElem?_eq_none (by omega)]
theorem range_map_ext {α β : Type} {l : List α} {f : Nat → β} {h : α → β} (e : ∀ i x, l[i]? = some x → f i = h x) : (List.range l.length).map f = l.map h := by
  apply List.ext_getElem?
  intro k
  by_cases hk : k < l.length
  · rw [List.getElem?_map, List.getElem?_range hk, List.getElem?_map, List.getElem?_eq_getElem hk]
    show some (f k) = some (h l[k])
    rw [e k _ (List.getElem?_eq_getElem hk)]
  · rw [List.getElem?_eq_none (by simp; omega), List.getElem?_eq_none (by simp; omega)]
theorem yesI {σ : L2.St} {H : Hp} {A B : Hp → Prop} (h : A H) : tYes σ H (fun b H4 => if b = true then A H4 else B H4) := by
  show if (true : Bool) = true then A H else B H
  rw [if_pos rfl]
  exact h
/-! ### rules with the written part named, for use within comprehensions -/
section
variable {X : Cx} {K : PySem.W.Frag}
theorem ix_listK (h : X.K = K := by rfl) : IxR X (rIxL K) := h ▸ ix_list
theorem ix_tupK (h : X.K = K := by rfl) : IxR X (rIxT K) := h ▸ ix_tup
theorem op_notIn_seqK (h : X.K = K := by rfl) : OpR X (compareOp .NotIn) (rIn K true) := h ▸ op_notIn_seq
theorem pe_fldK {e : Expr} {f : Str} {pos : Pos} {ta : TE} (he : PE X e ta) (hb : attributeBase e f X.env (eval e X.env) = eval e X.env) (h : X.K = K := by rfl) : PE X (.Attribute e f pos) (tFld K ta f) := h ▸ pe_fld he hb
theorem pg_tupK {es : List Expr} {k : Nat} {pos : Pos} {t : TGs} {n : Nat} (hc : X.calm = true) (hg : PGs X es t)
    (hn : (assignEach es X.env).length = n := by rfl) (hst : (assignEach es X.env).findIdx? (·.1) = none := by rfl) (h : X.K = K := by rfl) : PG X (.Tuple es k pos) (gTup K n t) := h ▸ pg_tup hc hg hn hst
theorem pi_enumK {e : Expr} {ta : TA} {p pos tpos : Pos} {elts : List Expr} {kk : Nat} (hg : Gl X "enumerate") (hm : X.mg "enumerate" = none) (ha : PA X [e] ta) (hs : starEach [e] X.env = [(false, eval e X.env)] := by rfl) (h : X.K = K := by rfl) :
    PI X (.Tuple elts kk tpos) (.Call (.Name "enumerate" p) [e] [] pos) (iEnum K ta) := h ▸ pi_enum hg hm ha hs
end
end Fb
set_option Elab.async false
set_option linter.all false
set_option maxRecDepth 100000
set_option maxHeartbeats 4000000
/-! Small defs: names, rows, products, places. -/
namespace Fb
open PySem PySem.Spec PyProof.Rows L2
theorem iteD {c A B : Prop} [Decidable c] (hc : c) (h : A) : if decide c = true then A else B := by
  rw [if_pos (decide_eq_true hc)]
  exact h
theorem iteDn {c A B : Prop} [Decidable c] (hc : ¬ c) (h : B) : if decide c = true then A else B := by
  rw [if_neg (by rw [decide_eq_false hc]; exact Bool.false_ne_true)]
  exact h
theorem iteN {c A B : Prop} [Decidable c] (hc : c) (h : B) : if (!decide c) = true then A else B := by
  rw [if_neg (by rw [decide_eq_true hc]; exact Bool.false_ne_true)]
  exact h
theorem decT {c : Prop} [Decidable c] (hc : c) {Q : VK} {H : Hp} (h : Q (.bl true) H) : Q (.bl (decide c)) H := by
  rw [decide_eq_true hc]; exact h
theorem decF {c : Prop} [Decidable c] (hc : ¬ c) {Q : VK} {H : Hp} (h : Q (.bl false) H) : Q (.bl (decide c)) H := by
  rw [decide_eq_false hc]; exact h
/-- a name of one to eight small letters -/
def letters : Str := "abcdefghijklmnopqrstuvwxyz"
def Nm (x : Str) : Prop := (1 ≤ x.length ∧ x.length ≤ 8) ∧ ∀ c ∈ x.cps.toList, letters.cps.contains c = true
theorem take_all {p : Nat → Bool} : ∀ {l : List Nat}, (∀ c ∈ l, p c = true) → l.takeWhile p = l
  | [], _ => rfl
  | c :: l, h => by
    rw [List.takeWhile_cons, if_pos (h c List.mem_cons_self), take_all fun x hx => h x (List.mem_cons_of_mem _ hx)]
theorem strip_nm {x : Str} (h : Nm x) : Txt.stripChars x letters = "" := by
  have hl : x.cps.toList.length = x.length := Array.length_toList
  have e1 : PySem.stripLo letters.cps.contains true x = x.length := by
    unfold PySem.stripLo
    rw [if_pos rfl, take_all h.2]
    exact hl
  have e2 : PySem.stripHi letters.cps.contains true x x.length = x.length := by
    unfold PySem.stripHi
    rw [if_pos rfl, List.drop_eq_nil_of_le (Nat.le_of_eq hl)]
    rfl
  unfold Txt.stripChars Txt.stripBy
  have n : ¬ PySem.stripSame letters.cps.contains true true x = true := by
    unfold PySem.stripSame
    rw [e1]
    have := h.1.1
    have : (x.length == 0) = false := by simp; omega
    rw [this]
    exact Bool.false_ne_true
  rw [if_neg n]
  unfold PySem.stripped
  rw [e1, e2]
  show (⟨x.cps.extract x.length x.length⟩ : Str) = _
  have e3 : x.cps.extract x.length x.length = #[] := by simp [Nat.min_le_left]
  rw [e3]
  decide +kernel
section
variable {P : Program} {w : World} {K : PySem.W.Frag} {mg : Str → Option Value} {base : Heap}
/-! ### is_value, is_name, is_row, want_row -/
def sp_is_value : Sp := fun vs H Q _ => ∃ i : Int, vs = [.int i] ∧ Q (.bl true) H
theorem ok_is_value (T : Txt K mg) : FnOk P w K mg base CX0 1 T.f_is_value T.fd_is_value ["thing"] sp_is_value := by
  refine T.F_is_value.ok sc_is_value (fun vs H Q E h => ?_) (fun cdv A outer s H vs Q E hr h => ?_)
  · obtain ⟨i, rfl, _⟩ := h
    rfl
  · obtain ⟨i, rfl, q⟩ := h
    refine ⟨_, (pss_one (ps_ret (pe_and (pe_callB call_isi (by rfl) T.n_isinstance (by decide +kernel) (pa_cons (pv 0) (pa_cons (pe_bltn (v := .ty "int") (by rfl) T.n_int (by decide +kernel) rfl) pa_nil))) (pe_one (pe_not (pe_callB call_isi (by rfl) T.n_isinstance (by decide +kernel) (pa_cons (pv 0) (pa_cons (pe_bltn (v := .ty "bool") (by rfl) T.n_bool (by decide +kernel) rfl) pa_nil)))))))), ?_⟩
    refine ⟨_, rfl, _, _, _, _, true, rfl, .ty _, .base (.int _), kit_ty (by decide +kernel), true, rfl, iteT ?_⟩
    exact ⟨_, rfl, _, _, _, _, false, rfl, .ty _, .base (.int _), kit_ty (by decide +kernel), false, rfl, q⟩
def sp_is_name : Sp := fun vs H Q _ => ∃ x : Str, vs = [.str x] ∧ Nm x ∧ Q (.bl true) H
theorem ok_is_name (T : Txt K mg) : FnOk P w K mg base CX0 1 T.f_is_name T.fd_is_name ["thing"] sp_is_name := by
  refine T.F_is_name.ok sc_is_name (fun vs H Q E h => ?_) (fun cdv A outer s H vs Q E hr h => ?_)
  · obtain ⟨i, rfl, _⟩ := h
    rfl
  · obtain ⟨x, rfl, hn, q⟩ := h
    have hz : x.length ≤ sizeLine := Nat.le_trans hn.1.2 (by decide)
    refine ⟨_, (pss_one (ps_ret (pe_and (pe_callB call_isi (by rfl) T.n_isinstance (by decide +kernel) (pa_cons (pv 0) (pa_cons (pe_bltn (v := .ty "str") (by rfl) T.n_str (by decide +kernel) rfl) pa_nil))) (pe_and (pe_chain op_le op_le pe_int (pe_callB call_len_str (by rfl) T.n_len PySem.boot_len (pa_cons (pv 0) pa_nil)) (pe_glob (by rfl) T.c_LONGEST_NAME T.r_LONGEST_NAME)) (pe_one (pe_cmpR op_eq (pe_bm PySem.F.plainAttrs_str PySem.F.slot_str_strip PySem.F.type_str_strip mt_stripChars (pv 0) (pa_cons (pe_glob (by rfl) T.c_LETTERS T.r_LETTERS) pa_nil)) pe_str (nomark _))))))), ?_⟩
    refine ⟨_, rfl, _, _, _, _, true, rfl, .ty _, .base (.str _), kit_ty (by decide +kernel), true, rfl, iteT ?_⟩
    refine ⟨_, rfl, _, rfl, hz, _, _, rfl, rfl, _, rfl, iteD (by have := hn.1.1; omega) ⟨_, _, rfl, rfl, _, rfl, iteD (by have := hn.1.2; omega) ?_⟩⟩
    refine ⟨_, rfl, rfl, _, _, rfl, rfl, hz, rfl, ?_⟩
    exact decT (congrArg V.str (strip_nm hn)) q
/-- a row of whole numbers, and the width that is asked -/
def sp_is_row : Sp := fun vs H Q _ => ∃ (a : Addr) (r : List Int) (n : Int), vs = [.ref a, .int n] ∧ H a = some (.tup (iVs r)) ∧ r.length ≤ 1000 ∧ n = r.length ∧ BackV H Q (.bl true)
theorem ok_is_row (T : Txt K mg) : FnOk P w K mg base CX0 2 T.f_is_row T.fd_is_row ["thing", "many"] sp_is_row := by
  have G_is_value : FnOk P w K mg base CX0 1 T.f_is_value T.fd_is_value ["thing"] sp_is_value := ok_is_value T
  refine T.F_is_row.ok sc_is_row (fun vs H Q E h => ?_) (fun cdv A outer s H vs Q E hr h => ?_)
  · obtain ⟨a, r, n, rfl, _⟩ := h
    rfl
  · obtain ⟨a, r, n, rfl, ha, hz, hn, q⟩ := h
    refine ⟨_, (pss_one (ps_ret (pe_and (pe_callB call_isi (by rfl) T.n_isinstance (by decide +kernel) (pa_cons (pv 0) (pa_cons (pe_bltn (v := .ty "tuple") (by rfl) T.n_tuple (by decide +kernel) rfl) pa_nil))) (pe_and (pe_cmpR op_eq (pe_callB call_len_seq (by rfl) T.n_len PySem.boot_len (pa_cons (pv 0) pa_nil)) (pv 1) (nomark _)) (pe_one (pe_callB (cr_all (by rfl)) (by rfl) T.n_all (by decide +kernel) (pa_cons (pe_lc (own := [("one", 2)]) (g := gName 2) (by rfl) sc_is_row.nd (pi_tup (pv 0)) (blkOk_by (N := N_is_row) (sc := defScope s_is_row) (by decide +kernel)) (fun _ _ _ _ _ => (pg_name (i := 2) sc_is_row.nd rfl (Or.inl rfl))) (fun _ _ _ _ _ => pts_nil) (fun _ _ _ _ _ => (pe_call G_is_value (hr.mono (by decide)) (by rfl) T.m_is_value T.F_is_value.kp T.b_is_value .nil pass0 (pa_cons (pv 2) pa_nil)))) pa_nil))))))), ?_⟩
    refine ⟨_, rfl, _, _, _, _, true, rfl, .ty _, .base (.tup ha), kit_ty (by decide +kernel), true, rfl, iteT ?_⟩
    refine ⟨_, rfl, a, _, rfl, .inr (SqT.of ha), _, rfl, rfl, _, rfl, iteD (by rw [hn, iVs_len]) ?_⟩
    refine ⟨_, rfl, a, rfl, ⟨_, SqT.of ha⟩, fun D hD => ?_⟩
    refine lc_map (walk_tup (K := K) (a := a) (xs := iVs r)) (fun _ => .bl true) hD (by rw [iVs_len]; omega) (fun H' s => SqT.of (s _ _ ha)) (fun i x H1 H2 hi s1 y => ?_) fun H' s hl => ?_
    · obtain ⟨rfl, hx⟩ := y
      rw [iVs_get] at hx
      obtain ⟨z, _, rfl⟩ := Option.map_eq_some_iff.mp hx
      exact ⟨Same.refl _, fun Q' F hq => ⟨rfl, by
        refine yesI ?_
        exact ⟨_, rfl, z, rfl, hq _ (Same.refl _)⟩⟩⟩
    · refine ⟨D, List.replicate r.length true, rfl, SqL.of ?_, ?_⟩
      · rw [hl]
        congr 2
        rw [iVs_len]
        apply List.ext_getElem?
        intro k
        simp [List.getElem?_replicate, List.getElem?_range]
        by_cases hk : k < r.length
        · rw [if_pos hk, List.getElem?_range hk]; rfl
        · rw [if_neg hk, List.getElem?_eq_none (by simp; omega)]; rfl
      · have e : (List.replicate r.length true).all id = true := by simp
        rw [e]
        exact q _ s
def sp_want_row : Sp := fun vs H Q _ => ∃ (a : Addr) (r : List Int) (n k : Int), vs = [.ref a, .int n, .int k] ∧ H a = some (.tup (iVs r)) ∧ r.length ≤ 1000 ∧ n = r.length ∧ BackV H Q .non
theorem ok_want_row (T : Txt K mg) : FnOk P w K mg base CX0 3 T.f_want_row T.fd_want_row ["thing", "many", "at"] sp_want_row := by
  have G_is_row : FnOk P w K mg base CX0 2 T.f_is_row T.fd_is_row ["thing", "many"] sp_is_row := ok_is_row T
  refine T.F_want_row.ok sc_want_row (fun vs H Q E h => ?_) (fun cdv A outer s H vs Q E hr h => ?_)
  · obtain ⟨a, r, n, k, rfl, _⟩ := h
    rfl
  · obtain ⟨a, r, n, k, rfl, ha, hz, hn, q⟩ := h
    refine ⟨_, ((pss_one (ps_if (pt_not (pt_val (pe_call G_is_row (hr.mono (by decide)) (by rfl) T.m_is_row T.F_is_row.kp T.b_is_row .nil pass0 (pa_cons (pv 0) (pa_cons (pv 1) pa_nil))))) (pss_one ps_never) pss_nil)) : PSs (cxOf CX0 P w K mg base N_want_row "want_row" (defScope s_want_row) T.f_want_row cdv A outer s H E) (defBody s_want_row) _), ?_⟩
    refine ⟨_, rfl, _, rfl, a, r, n, rfl, ha, hz, hn, fun H' s => ⟨true, rfl, iteF (q _ s)⟩⟩
/-! ### at_places, moved -/
def sp_at_places : Sp := fun vs H Q _ => ∃ (a b : Addr) (xs : List V) (ps : List Nat) (f : Nat → V), vs = [.ref a, .ref b] ∧ H a = some (.lst xs) ∧ NT H b ps ∧ ps.length ≤ 1000 ∧ (∀ p ∈ ps, xs[p]? = some (f p)) ∧ BackT H Q (ps.map f)
theorem ok_at_places (T : Txt K mg) : FnOk P w K mg base CX0 1 T.f_at_places T.fd_at_places ["found", "parts"] sp_at_places := by
  refine T.F_at_places.ok sc_at_places (fun vs H Q E h => ?_) (fun cdv A outer s H vs Q E hr h => ?_)
  · obtain ⟨a, b, xs, ps, f, rfl, _⟩ := h
    rfl
  · obtain ⟨a, b, xs, ps, f, rfl, ha, hb, hz, hp, q⟩ := h
    refine ⟨_, (pss_one (ps_ret (pe_callTy call_tuple_of (by rfl) T.n_tuple (by decide +kernel) (pa_cons (pe_lc (own := [("part", 2)]) (g := gName 2) (by rfl) sc_at_places.nd (pi_tup (pv 1)) (blkOk_by (N := N_at_places) (sc := defScope s_at_places) (by decide +kernel)) (fun _ _ _ _ _ => (pg_name (i := 2) sc_at_places.nd rfl (Or.inl rfl))) (fun _ _ _ _ _ => pts_nil) (fun _ _ _ _ _ => (pe_ix (ix_listK (K := K)) (pv 0) (pv 2) (fun _ _ => rfl)))) pa_nil)))), ?_⟩
    refine ⟨_, rfl, b, rfl, ⟨_, SqT.of hb⟩, fun D hD => ?_⟩
    refine lc_map (walk_tup (K := K) (a := b) (xs := nVs ps)) (fun i => f (ps.getD i 0)) hD (by rw [nVs_len]; omega) (fun H' s => SqT.of (s _ _ hb)) (fun i x H1 H2 hi s1 y => ?_) fun H' s hl => ?_
    · obtain ⟨rfl, hx⟩ := y
      obtain ⟨n, hn, rfl⟩ := nVs_some hx
      refine ⟨Same.refl _, fun Q' F hq => ⟨rfl, ?_⟩⟩
      refine yesI ?_
      refine ⟨_, rfl, _, rfl, a, xs, _, _, rfl, rfl, SqL.of (s1 _ _ ha), atI_nat (hp n (mem_at hn)), ?_⟩
      have e : ps.getD i 0 = n := by rw [List.getD_eq_getElem?_getD, hn]; rfl
      have := hq _ (Same.refl _)
      rw [e] at this
      exact this
    · refine ⟨D, _, rfl, .inl ⟨SqL.of hl, fun l hn => q l _ (s.trans (Same.new hn)) ?_⟩⟩
      rw [upd_same, nVs_len, range_map_ext (h := f) fun i x e => by rw [List.getD_eq_getElem?_getD, e]; rfl]
def sp_moved : Sp := fun vs H Q _ => ∃ (a d : Addr) (kvs : List (Key × V)) (ps : List Nat) (f : Nat → Nat), vs = [.ref a, .ref d] ∧ NT H a ps ∧ H d = some (.dK kvs) ∧ ps.length ≤ 1000 ∧ (∀ p ∈ ps, valV kvs (Sum.inl (p : Int)) = some (nV (f p))) ∧ BackT H Q (nVs (ps.map f))
theorem ok_moved (T : Txt K mg) : FnOk P w K mg base CX0 1 T.f_moved T.fd_moved ["parts", "places"] sp_moved := by
  refine T.F_moved.ok sc_moved (fun vs H Q E h => ?_) (fun cdv A outer s H vs Q E hr h => ?_)
  · obtain ⟨a, b, xs, ps, f, rfl, _⟩ := h
    rfl
  · obtain ⟨a, d, kvs, ps, f, rfl, ha, hd, hz, hp, q⟩ := h
    have hu := hu_of hr
    refine ⟨_, (pss_one (ps_ret (pe_callTy call_tuple_of (by rfl) T.n_tuple (by decide +kernel) (pa_cons (pe_lc (own := [("part", 2)]) (g := gName 2) (by rfl) sc_moved.nd (pi_tup (pv 0)) (blkOk_by (N := N_moved) (sc := defScope s_moved) (by decide +kernel)) (fun _ _ _ _ _ => (pg_name (i := 2) sc_moved.nd rfl (Or.inl rfl))) (fun _ _ _ _ _ => pts_nil) (fun _ _ _ _ _ => (pe_dget hu (pv 1) (pv 2) (fun _ _ => rfl)))) pa_nil)))), ?_⟩
    refine ⟨_, rfl, a, rfl, ⟨_, SqT.of ha⟩, fun D hD => ?_⟩
    refine lc_map (walk_tup (K := K) (a := a) (xs := nVs ps)) (fun i => nV (f (ps.getD i 0))) hD (by rw [nVs_len]; omega) (fun H' s => SqT.of (s _ _ ha)) (fun i x H1 H2 hi s1 y => ?_) fun H' s hl => ?_
    · obtain ⟨rfl, hx⟩ := y
      obtain ⟨n, hn, rfl⟩ := nVs_some hx
      refine ⟨Same.refl _, fun Q' F hq => ⟨rfl, ?_⟩⟩
      refine yesI ?_
      refine ⟨_, rfl, _, rfl, d, nV (f n), rfl, ?_, ?_⟩
      · rw [← hp n (mem_at hn)]
        exact DGet.k (k := Sum.inl (n : Int)) (s1 _ _ hd)
      · have e : ps.getD i 0 = n := by rw [List.getD_eq_getElem?_getD, hn]; rfl
        have := hq _ (Same.refl _)
        rw [e] at this
        exact this
    · refine ⟨D, _, rfl, .inl ⟨SqL.of hl, fun l hn => q l _ (s.trans (Same.new hn)) ?_⟩⟩
      rw [upd_same, nVs_len, range_map_ext (h := fun p => nV (f p)) fun i x e => by rw [List.getD_eq_getElem?_getD, e]; rfl]
      unfold nVs
      rw [List.map_map]
      rfl
/-! ### products -/
/-- the product of the numbers at some places -/
def sp_product_at : Sp := fun vs H Q _ => ∃ (a b : Addr) (cs ps : List Nat), vs = [.ref a, .ref b] ∧ NL H a cs ∧ NT H b ps ∧ (∀ p ∈ ps, p < cs.length ∧ cs.getD p 0 < 2 ^ 60) ∧
  Q (nV (prodN (fun p => cs.getD p 0) ps)) H
theorem ok_product_at (T : Txt K mg) : FnOk P w K mg base CX0 1 T.f_product_at T.fd_product_at ["numbers", "parts"] sp_product_at := by
  refine T.F_product_at.ok sc_product_at (fun vs H Q E h => ?_) (fun cdv A outer s H vs Q E hr h => ?_)
  · obtain ⟨a, b, cs, ps, rfl, _⟩ := h
    rfl
  · obtain ⟨a, b, cs, ps, rfl, ha, hb, hp, q⟩ := h
    refine ⟨_, (pss_cons (ps_set (i := 2) sc_product_at.nd rfl (Or.inl rfl) pe_int)
    (pss_cons (ps_for PassesOwn.never (by rfl) (pi_tup (pv 1)) (pg_name (i := 3) sc_product_at.nd rfl (Or.inl rfl)) (pss_one (ps_aug (i := 2) sc_product_at.nd rfl (Or.inl rfl) (pe_ix ix_list (pv 0) (pv 3) (fun _ _ => rfl)) ip_mul)))
    (pss_one (ps_ret (pv 2))))), ?_⟩
    refine ⟨_, rfl, b, rfl, ⟨_, SqT.of hb⟩, for_tup (K := K) (a := b) (xs := nVs ps) (fun i σ H' => ∃ v, σ = [some (.ref a), some (.ref b), some (nV (prodN (fun p => cs.getD p 0) (ps.take i))), v] ∧ H' = H) ⟨none, rfl, rfl⟩ ?_ ?_ ?_⟩
    · rintro i σ _ _ ⟨v, rfl, rfl⟩
      exact SqT.of hb
    · rintro i x σ _ hx ⟨v, rfl, rfl⟩
      obtain ⟨p, hp1, rfl⟩ := nVs_some hx
      obtain ⟨hp2, hp3⟩ := hp p (mem_at hp1)
      refine ⟨_, rfl, _, rfl, _, rfl, a, _, _, _, rfl, rfl, SqL.of ha, at_nV (getD_some hp2), _, _, rfl, rfl, cmul_r (by omega), some (nV p), ?_, rfl⟩
      rw [prodN_take _ _ hp1]
      simp
    · rintro σ _ ⟨v, rfl, rfl⟩
      refine ⟨_, rfl, ?_⟩
      rw [nVs_len, List.take_length]
      exact q
theorem ok__law_product (T : Txt K mg) : FnOk P w K mg base CX0 1 T.f__law_product T.fd__law_product ["_law_numbers", "_law_parts"] sp_product_at := by
  refine T.F__law_product.ok sc__law_product (fun vs H Q E h => ?_) (fun cdv A outer s H vs Q E hr h => ?_)
  · obtain ⟨a, b, cs, ps, rfl, _⟩ := h
    rfl
  · obtain ⟨a, b, cs, ps, rfl, ha, hb, hp, q⟩ := h
    refine ⟨_, (pss_cons (ps_set (i := 2) sc__law_product.nd rfl (Or.inl rfl) pe_int)
    (pss_cons (ps_for PassesOwn.never (by rfl) (pi_tup (pv 1)) (pg_name (i := 3) sc__law_product.nd rfl (Or.inl rfl)) (pss_one (ps_set (i := 2) sc__law_product.nd rfl (Or.inl rfl) (pe_op op_mul (pv 2) (pe_ix ix_list (pv 0) (pv 3) (fun _ _ => rfl))))))
    (pss_one (ps_ret (pv 2))))), ?_⟩
    refine ⟨_, rfl, b, rfl, ⟨_, SqT.of hb⟩, for_tup (K := K) (a := b) (xs := nVs ps) (fun i σ H' => ∃ v, σ = [some (.ref a), some (.ref b), some (nV (prodN (fun p => cs.getD p 0) (ps.take i))), v] ∧ H' = H) ⟨none, rfl, rfl⟩ ?_ ?_ ?_⟩
    · rintro i σ _ _ ⟨v, rfl, rfl⟩
      exact SqT.of hb
    · rintro i x σ _ hx ⟨v, rfl, rfl⟩
      obtain ⟨p, hp1, rfl⟩ := nVs_some hx
      obtain ⟨hp2, hp3⟩ := hp p (mem_at hp1)
      refine ⟨_, rfl, _, rfl, _, rfl, a, _, _, _, rfl, rfl, SqL.of ha, at_nV (getD_some hp2), _, _, rfl, rfl, cmul_r (by omega), some (nV p), ?_, rfl⟩
      rw [prodN_take _ _ hp1]
      simp
    · rintro σ _ ⟨v, rfl, rfl⟩
      refine ⟨_, rfl, ?_⟩
      rw [nVs_len, List.take_length]
      exact q
end
end Fb
set_option Elab.async false
set_option linter.all false
set_option maxRecDepth 100000
set_option maxHeartbeats 4000000
/-! The law's draws. -/
namespace Fb
open PySem PySem.Spec PyProof.Rows L2
/-- a well of draws, of which at most n were mixed -/
def WellAt (H : Hp) (a : Addr) (n : Nat) : Prop := ∃ x y z : Int, H a = some (.lst [.int x, .int y, .int z]) ∧ 0 ≤ y ∧ y < 2147483647 ∧ 0 ≤ z ∧ z ≤ n
theorem WellAt.mono {H : Hp} {a : Addr} {n m : Nat} (h : WellAt H a n) (hm : n ≤ m) : WellAt H a m := by
  obtain ⟨x, y, z, h1, h2, h3, h4, h5⟩ := h
  exact ⟨x, y, z, h1, h2, h3, h4, by omega⟩
theorem WellAt.same {H H' : Hp} {a : Addr} {n : Nat} (h : WellAt H a n) (e : Same H H') : WellAt H' a n := by
  obtain ⟨x, y, z, h1, h2⟩ := h
  exact ⟨x, y, z, e _ _ h1, h2⟩
section
variable {P : Program} {w : World} {K : PySem.W.Frag} {mg : Str → Option Value} {base : Heap}
def sp_cell_at (K : PySem.W.Frag) : Sp := fun vs H Q _ => ∃ (a : Addr) (ns : List Int) (k : Nat), vs = [.ref a, nV k] ∧ SqL K H a (ns.map V.int) ∧ ∀ r : Int, Q (.int r) H
theorem ok__law_cell_at (T : Txt K mg) : FnOk P w K mg base CX0 1 T.f__law_cell_at T.fd__law_cell_at ["_law_script", "_law_k"] (sp_cell_at K) := by
  refine T.F__law_cell_at.ok sc__law_cell_at (fun vs H Q E h => ?_) (fun cdv A outer s H vs Q E hr h => ?_)
  · obtain ⟨a, ns, k, rfl, _⟩ := h
    rfl
  · obtain ⟨a, ns, k, rfl, ha, q⟩ := h
    refine ⟨_, (pss_cons (ps_if (pt_cmpR op_lt (pv 1) (pe_callB call_len_seq (by rfl) T.n_len PySem.boot_len (pa_cons (pv 0) pa_nil)) (nomark _)) (pss_one (ps_ret (pe_ix ix_list (pv 0) (pv 1) (fun _ _ => rfl)))) pss_nil)
    (pss_one (ps_ret pe_int))), ?_⟩
    refine ⟨_, rfl, _, rfl, a, _, rfl, .inl ha, _, _, rfl, rfl, _, rfl, ?_⟩
    by_cases hk : (k : Int) < ((ns.map V.int).length : Nat)
    · refine iteD hk ?_
      have hk' : k < ns.length := by simpa using hk
      exact ⟨_, rfl, _, rfl, a, _, _, _, rfl, rfl, ha, atI_nat (by rw [List.getElem?_map, List.getElem?_eq_getElem hk']; rfl), q _⟩
    · exact iteDn hk (q 0)
def sp__law_well : Sp := fun vs H Q _ => ∃ c : Int, vs = [.int c] ∧ ∀ a H', H a = none → Same H H' → WellAt H' a 0 → Q (.ref a) H'
theorem ok__law_well (T : Txt K mg) : FnOk P w K mg base CX0 1 T.f__law_well T.fd__law_well ["_law_cell"] sp__law_well := by
  refine T.F__law_well.ok sc__law_well (fun vs H Q E h => ?_) (fun cdv A outer s H vs Q E hr h => ?_)
  · obtain ⟨c, rfl, _⟩ := h
    rfl
  · obtain ⟨c, rfl, q⟩ := h
    refine ⟨_, (pss_one (ps_ret (pe_lst (pa_cons (pe_op op_mul (pv 0) (pe_callTy call_int1 (by rfl) T.n_int (by decide +kernel) (pa_cons (pe_cmpR op_ge (pv 0) (pe_op op_pow pe_int pe_int) (nomark _)) pa_nil))) (pa_cons (pe_op op_mod (pv 0) pe_int) (pa_cons pe_int pa_nil)))))), ?_⟩
    refine ⟨_, rfl, _, rfl, _, _, rfl, rfl, ⟨by decide, by decide, by decide⟩, _, _, rfl, rfl, .inr ⟨_, rfl, _, _, rfl, rfl, .inr ?_, ?_⟩⟩
    · split <;> exact ⟨by decide, by decide⟩
    refine ⟨_, rfl, _, _, rfl, rfl, (by show (0 : Int) < 2147483647; decide), big' (by show 3 ≤ 100000; decide), fun p hp => ?_⟩
    refine q p _ hp (Same.new hp) ⟨_, _, _, upd_same, Int.emod_nonneg _ (by decide), Int.emod_lt_of_pos _ (by decide), by decide, by decide⟩
def sp__law_draw : Sp := fun vs H Q _ => ∃ (a : Addr) (m : Int) (n : Nat), vs = [.ref a, .int m] ∧ 1 ≤ m ∧ m < 2 ^ 200 ∧ WellAt H a n ∧ n ≤ 1000000000 ∧ ∀ (r : Int) H', 0 ≤ r → r < m → WellAt H' a (n + 1) → Off [a] H H' → Q (.int r) H'
theorem ok__law_draw (T : Txt K mg) : FnOk P w K mg base CX0 1 T.f__law_draw T.fd__law_draw ["_law_well_here", "_law_many"] sp__law_draw := by
  refine T.F__law_draw.ok sc__law_draw (fun vs H Q E h => ?_) (fun cdv A outer s H vs Q E hr h => ?_)
  · obtain ⟨a, m, n, rfl, _⟩ := h
    rfl
  · obtain ⟨a, m, n, rfl, h1, h2, ⟨x, y, z, ha, hy0, hy1, hz0, hz1⟩, hn, q⟩ := h
    refine ⟨_, (pss_cons (ps_if (pt_cmpR op_gt (pe_ix ix_list (pv 0) pe_int (fun _ _ => rfl)) pe_int (nomark _)) (pss_cons (ps_set (i := 2) sc__law_draw.nd rfl (Or.inl rfl) (pe_op op_mod (pe_ix ix_list (pv 0) pe_int (fun _ _ => rfl)) (pv 1)))
      (pss_cons (ps_asg (pe_op op_fdivW (pe_ix ix_list (pv 0) pe_int (fun _ _ => rfl)) (pv 1)) (pg_sub (pv 0) pe_int set_list))
      (pss_one (ps_ret (pv 2))))) pss_nil)
    (pss_cons (ps_asg (pe_op op_add (pe_ix ix_list (pv 0) pe_int (fun _ _ => rfl)) pe_int) (pg_sub (pv 0) pe_int set_list))
    (pss_cons (ps_set (i := 3) sc__law_draw.nd rfl (Or.inl rfl) (pe_op op_mod (pe_op op_pow (pe_op op_add (pe_op op_add (pe_ix ix_list (pv 0) pe_int (fun _ _ => rfl)) (pe_op op_mul pe_int (pe_ix ix_list (pv 0) pe_int (fun _ _ => rfl)))) pe_int) pe_int) pe_int))
    (pss_cons (ps_set (i := 3) sc__law_draw.nd rfl (Or.inl rfl) (pe_op op_mod (pe_op op_mul (pv 3) (pe_op op_add (pe_op op_fdiv (pv 3) pe_int) pe_int)) pe_int))
    (pss_one (ps_ret (pe_op op_mod (pe_op op_fdiv (pe_op op_mod (pe_op op_mul (pv 3) (pe_op op_add (pe_op op_add (pe_op op_fdiv (pv 3) pe_int) pe_int) (pe_ix ix_list (pv 0) pe_int (fun _ _ => rfl)))) pe_int) pe_int) (pv 1)))))))), ?_⟩
    refine ⟨_, rfl, a, _, _, _, rfl, rfl, SqL.of ha, rfl, _, _, rfl, rfl, _, rfl, ?_⟩
    by_cases hx : 0 < x
    · refine iteD hx ?_
      refine ⟨_, rfl, a, _, _, _, rfl, rfl, SqL.of ha, rfl, _, rfl, _, _, rfl, rfl, by omega, ?_⟩
      refine ⟨_, rfl, a, _, _, _, rfl, rfl, SqL.of ha, rfl, _, rfl, _, _, rfl, rfl, wide_div (b := 200) (by omega) (by omega) (by decide) (by decide), ?_⟩
      refine ⟨_, rfl, a, _, _, 0, rfl, rfl, ha, rfl, ?_⟩
      refine ⟨_, rfl, q _ _ (Int.emod_nonneg _ (by omega)) (Int.emod_lt_of_pos _ (by omega)) ⟨x / m, y, z, upd_same, hy0, hy1, hz0, by omega⟩ (Off.put (by simp))⟩
    · refine iteDn hx ?_
      refine ⟨_, rfl, a, _, _, _, rfl, rfl, SqL.of ha, rfl, _, _, rfl, rfl, ?_⟩
      refine ⟨_, rfl, a, _, _, 2, rfl, rfl, ha, rfl, ?_⟩
      have hb : (upd H a (.lst [.int x, .int y, .int (z + 1)])) a = some (.lst [.int x, .int y, .int (z + 1)]) := upd_same
      refine ⟨_, rfl, a, _, _, _, rfl, rfl, SqL.of hb, rfl, _, rfl, a, _, _, _, rfl, rfl, SqL.of hb, rfl, _, _, rfl, rfl, .inl ⟨by decide, by decide⟩, _, _, rfl, rfl, _, _, rfl, rfl, _, _, rfl, rfl, ⟨by decide, by decide, by omega⟩, _, _, rfl, rfl, (by show (0 : Int) < 2147483629; decide), ?_⟩
      have a0 : 0 ≤ (y + 7919 * (z + 1) + 1) ^ (3 : Int).toNat % 2147483629 := Int.emod_nonneg _ (by decide)
      have a1 : (y + 7919 * (z + 1) + 1) ^ (3 : Int).toNat % 2147483629 < 2147483629 := Int.emod_lt_of_pos _ (by decide)
      generalize (y + 7919 * (z + 1) + 1) ^ (3 : Int).toNat % 2147483629 = u at a0 a1 ⊢
      refine ⟨_, rfl, _, rfl, _, _, rfl, rfl, ⟨by decide, by decide⟩, _, _, rfl, rfl, _, _, rfl, rfl, .inl ⟨by omega, by omega⟩, _, _, rfl, rfl, (by show (0 : Int) < 2147483587; decide), ?_⟩
      have b0 : 0 ≤ u * (u / 1009 + 69621) % 2147483587 := Int.emod_nonneg _ (by decide)
      have b1 : u * (u / 1009 + 69621) % 2147483587 < 2147483587 := Int.emod_lt_of_pos _ (by decide)
      generalize u * (u / 1009 + 69621) % 2147483587 = v at b0 b1 ⊢
      refine ⟨_, rfl, _, rfl, _, _, rfl, rfl, ⟨by decide, by decide⟩, _, _, rfl, rfl, _, rfl, a, _, _, _, rfl, rfl, SqL.of hb, rfl, _, _, rfl, rfl, _, _, rfl, rfl, .inl ⟨by omega, by omega⟩, _, _, rfl, rfl, (by show (0 : Int) < 2147483579; decide), _, _, rfl, rfl, ⟨by decide, by decide⟩, _, rfl, _, _, rfl, rfl, by omega, ?_⟩
      exact q _ _ (Int.emod_nonneg _ (by omega)) (Int.emod_lt_of_pos _ (by omega)) ⟨x, y, z + 1, upd_same, hy0, hy1, by omega, by omega⟩ (Off.put (by simp))
def sp__law_one (K : PySem.W.Frag) : Sp := fun vs H Q _ => ∃ (a b : Addr) (n : Nat) (xs : List V), vs = [.ref a, .ref b] ∧ a ≠ b ∧ H b = some (.lst xs) ∧ xs ≠ [] ∧ xs.length ≤ 1000 ∧ WellAt H a n ∧ n ≤ 1000000000 ∧ ∀ (x : V) H', x ∈ xs → WellAt H' a (n + 1) → Off [a] H H' → Q x H'
theorem ok__law_one (T : Txt K mg) : FnOk P w K mg base CX0 2 T.f__law_one T.fd__law_one ["_law_well_here", "_law_some_here"] (sp__law_one K) := by
  have G__law_draw : FnOk P w K mg base CX0 1 T.f__law_draw T.fd__law_draw ["_law_well_here", "_law_many"] sp__law_draw := ok__law_draw T
  refine T.F__law_one.ok sc__law_one (fun vs H Q E h => ?_) (fun cdv A outer s H vs Q E hr h => ?_)
  · obtain ⟨a, b, n, xs, rfl, _⟩ := h
    rfl
  · obtain ⟨a, b, n, xs, rfl, hab, hb, hne, hz, hw, hn, q⟩ := h
    refine ⟨_, (pss_one (ps_ret (pe_ix ix_list (pv 1) (pe_call G__law_draw (hr.mono (by decide)) (by rfl) T.m__law_draw T.F__law_draw.kp T.b__law_draw .nil pass0 (pa_cons (pv 0) (pa_cons (pe_callB call_len_seq (by rfl) T.n_len PySem.boot_len (pa_cons (pv 1) pa_nil)) pa_nil))) (fun _ _ => rfl)))), ?_⟩
    have hl : 1 ≤ xs.length := List.length_pos_iff.mpr hne
    refine ⟨_, rfl, _, rfl, _, rfl, b, _, rfl, .inl (SqL.of hb), a, _, n, rfl, by omega, by omega, hw, hn, fun r H' r0 r1 hw' ho => ?_⟩
    have hb' := ho _ _ (by simp [Ne.symm hab]) hb
    obtain ⟨j, rfl⟩ : ∃ j : Nat, r = (j : Int) := ⟨r.toNat, by omega⟩
    have hj : j < xs.length := by omega
    exact ⟨b, _, _, _, rfl, rfl, SqL.of hb', atI_nat (List.getElem?_eq_getElem hj), q xs[j] H' (List.getElem_mem hj) hw' ho⟩
end
end Fb
set_option Elab.async false
set_option linter.all false
set_option maxRecDepth 100000
set_option maxHeartbeats 4000000
/-! Data that is compared: rows, names, entries. -/
namespace Fb
open PySem PySem.Spec PyProof.Rows L2
def dI (r : List Int) : List PyData := r.map PyData.int
def dN (r : List Nat) : List PyData := r.map fun n : Nat => PyData.int (n : Int)
def dE (e : Ent) : PyData := .tuple [.int e.1, .tuple (dN e.2)]
section
variable {K : PySem.W.Frag} {H : Hp}
theorem dpI : ∀ r : List Int, DpAll K H (iVs r) (dI r)
  | [] => .nil
  | i :: r => .cons (.int i) (dpI r)
theorem dpN : ∀ r : List Nat, DpAll K H (nVs r) (dN r)
  | [] => .nil
  | i :: r => .cons (.int _) (dpN r)
theorem dpS : ∀ r : List Str, DpAll K H (sVs r) (r.map PyData.str)
  | [] => .nil
  | i :: r => .cons (.str i) (dpS r)
theorem dp_row {a : Addr} {r : List Int} (h : H a = some (.tup (iVs r))) : Dp K H (.ref a) (.tuple (dI r)) := .tup (SqT.of h) (dpI r)
theorem lay_I : ∀ r : List Int, PyData.canLayAll0 (dI r) = true
  | [] => by simp [dI, PyData.canLayAll0]
  | i :: r => by
    have := lay_I r
    simp only [dI, List.map_cons, PyData.canLayAll0, PyData.canLay0, Bool.true_and] at this ⊢
    exact this
theorem lay_N : ∀ r : List Nat, PyData.canLayAll0 (dN r) = true
  | [] => by simp [dN, PyData.canLayAll0]
  | i :: r => by
    have := lay_N r
    simp only [dN, List.map_cons, PyData.canLayAll0, PyData.canLay0, Bool.true_and] at this ⊢
    exact this
theorem dep_I : ∀ r : List Int, PyData.depthAll (dI r) = 0
  | [] => by simp [dI, PyData.depthAll]
  | i :: r => by
    have := dep_I r
    simp only [dI, List.map_cons, PyData.depthAll, PyData.depth] at this ⊢
    omega
theorem dep_N : ∀ r : List Nat, PyData.depthAll (dN r) = 0
  | [] => by simp [dN, PyData.depthAll]
  | i :: r => by
    have := dep_N r
    simp only [dN, List.map_cons, PyData.depthAll, PyData.depth] at this ⊢
    omega
theorem shp_row (r : List Int) : SeqAt.shaped (.tuple (dI r)) = true := by
  unfold SeqAt.shaped
  simp only [PyData.canLay0, lay_I, PyData.depth, dep_I]
  decide
theorem eqv_row : ∀ r s : List Int, PyData.eqvAll (dI r) (dI s) = decide (r = s)
  | [], [] => by simp [dI, PyData.eqvAll]
  | [], _ :: _ => by simp [dI, PyData.eqvAll]
  | _ :: _, [] => by simp [dI, PyData.eqvAll]
  | x :: r, y :: s => by
    have := eqv_row r s
    simp only [dI, List.map_cons, PyData.eqvAll, PyData.eqv] at this ⊢
    rw [this]
    by_cases h : x = y
    · subst h; by_cases h2 : r = s <;> simp [h2]
    · simp [h]
theorem shp_pair (n : Int) (r : List Int) : SeqAt.shaped (.tuple [.int n, .tuple (dI r)]) = true := by
  unfold SeqAt.shaped
  simp only [PyData.canLay0, PyData.canLayAll0, lay_I, PyData.depth, PyData.depthAll, dep_I]
  decide
theorem eqv_pair (n m : Int) (r s : List Int) : PyData.eqv (.tuple [.int n, .tuple (dI r)]) (.tuple [.int m, .tuple (dI s)]) = (decide (n = m) && decide (r = s)) := by
  simp only [PyData.eqv, PyData.eqvAll, eqv_row]
  by_cases h : n = m
  · subst h; simp
  · simp [h]
theorem shp_nil : SeqAt.shaped (.list []) = true := by
  unfold SeqAt.shaped
  simp only [PyData.canLay0, PyData.canLayAll0, PyData.depth, PyData.depthAll]
  decide
theorem eqv_nil (xs : List PyData) : PyData.eqv (.list xs) (.list []) = xs.isEmpty := by
  cases xs <;> simp [PyData.eqv, PyData.eqvAll]
theorem dp_ents {l : Addr} {vs : List V} {es : List Ent} (h : H l = some (.lst vs)) (p : Paired (EntV H) vs es) : Dp K H (.ref l) (.list (es.map dE)) := by
  refine .lst (SqL.of h) ?_
  clear h
  induction p with
  | nil => exact .nil
  | @cons v e vs es h t ih =>
    obtain ⟨a, b, rfl, h1, h2⟩ := h
    exact .cons (.tup (SqT.of h1) (.cons (.int _) (.cons (.tup (SqT.of h2) (dpN _)) .nil))) ih
theorem shp_ents (es : List Ent) : SeqAt.shaped (.list (es.map dE)) = true := by
  have h1 : PyData.canLayAll0 (es.map dE) = true := by
    induction es with
    | nil => simp [PyData.canLayAll0]
    | cons e es ih => simp only [List.map_cons, PyData.canLayAll0, dE, PyData.canLay0, lay_N, Bool.true_and, Bool.and_true]; exact ih
  have h2 : PyData.depthAll (es.map dE) ≤ 2 := by
    induction es with
    | nil => simp [PyData.depthAll]
    | cons e es ih =>
      simp only [List.map_cons, PyData.canLayAll0, Bool.and_eq_true] at h1
      simp only [List.map_cons, PyData.depthAll, dE, PyData.depth, dep_N]
      have := ih h1.2
      omega
  unfold SeqAt.shaped
  simp only [PyData.canLay0, h1, PyData.depth, Bool.true_and]
  exact decide_eq_true (by omega)
theorem strOk_nm {x : Str} (h : ∀ c ∈ x.cps.toList, letters.cps.contains c = true) (hz : x.length ≤ 8) : PyData.strOk x = true := by
  have q : ∀ c ∈ letters.cps.toList, c < 0x110000 := by decide +kernel
  unfold PyData.strOk
  rw [Array.all_eq_true_iff_forall_mem]
  intro c hc
  have h1 := h c (Array.mem_toList_iff.mpr hc)
  exact decide_eq_true (q c (Array.mem_toList_iff.mpr (Array.contains_iff.mp h1)))
theorem shp_strs {l : List Str} (h : ∀ x ∈ l, PyData.strOk x = true) : SeqAt.shaped (.list (l.map PyData.str)) = true := by
  have h1 : PyData.canLayAll0 (l.map PyData.str) = true := by
    induction l with
    | nil => simp [PyData.canLayAll0]
    | cons x l ih =>
      simp only [List.map_cons, PyData.canLayAll0, PyData.canLay0, h x List.mem_cons_self, Bool.true_and]
      exact ih fun y hy => h y (List.mem_cons_of_mem _ hy)
  have h2 : PyData.depthAll (l.map PyData.str) = 0 := by
    clear h h1
    induction l with
    | nil => simp [PyData.depthAll]
    | cons e es ih => simp only [List.map_cons, PyData.depthAll, PyData.depth, ih]; rfl
  unfold SeqAt.shaped
  simp only [PyData.canLay0, h1, PyData.depth, h2]
  decide
theorem dp_strs {a : Addr} {l : List Str} (h : H a = some (.lst (sVs l))) : Dp K H (.ref a) (.list (l.map PyData.str)) := .lst (SqL.of h) (dpS l)
theorem dp_nil {a : Addr} (h : H a = some (.lst [])) : Dp K H (.ref a) (.list []) := .lst (SqL.of h) .nil
end
/-! ### the letters -/
theorem let_at {j : Nat} (h : j < 26) : letters.cps.toList[j]? = some (97 + j) := by
  have : ∀ j : Fin 26, letters.cps.toList[j.val]? = some (97 + j.val) := by decide +kernel
  exact this ⟨j, h⟩
theorem let_in {j : Nat} (h : j < 26) : letters.cps.contains (97 + j) = true := by
  have : ∀ j : Fin 26, letters.cps.contains (97 + j.val) = true := by decide +kernel
  exact this ⟨j, h⟩
theorem let_len : letters.cps.toList.length = 26 := by decide +kernel
/-- a stem: at most n letters -/
def Stem (n : Nat) (x : Str) : Prop := x.length ≤ n ∧ ∀ c ∈ x.cps.toList, letters.cps.contains c = true
theorem len_str (x : Str) : x.cps.toList.length = x.length := Array.length_toList
theorem app_cps (x y : Str) : (x ++ y).cps.toList = x.cps.toList ++ y.cps.toList := by
  show (x.cps ++ y.cps).toList = _
  simp
theorem app_len (x y : Str) : (x ++ y).length = x.length + y.length := by
  rw [← len_str, app_cps, List.length_append, len_str, len_str]
theorem stem_nil : Stem 0 "" := ⟨by decide +kernel, fun c hc => by
  have : ("" : Str).cps.toList = [] := by decide +kernel
  rw [this] at hc; cases hc⟩
theorem one_cps (c : Nat) : (⟨#[c]⟩ : Str).cps.toList = [c] := rfl
theorem one_len (c : Nat) : (⟨#[c]⟩ : Str).length = 1 := rfl
theorem Stem.snoc {n : Nat} {x : Str} (h : Stem n x) {j : Nat} (hj : j < 26) : Stem (n + 1) (x ++ ⟨#[97 + j]⟩) := by
  refine ⟨by rw [app_len, one_len]; have := h.1; omega, fun c hc => ?_⟩
  rw [app_cps, one_cps, List.mem_append] at hc
  rcases hc with hc | hc
  · exact h.2 c hc
  · rw [List.mem_singleton.mp hc]; exact let_in hj
theorem Stem.nm {x : Str} (h : Stem 7 x) {j : Nat} (hj : j < 26) : Nm (x ++ ⟨#[97 + j]⟩) := by
  have q := h.snoc hj
  refine ⟨⟨by rw [app_len, one_len]; omega, q.1⟩, q.2⟩
theorem cut_stem {x : Str} (h : Nm x) : Stem 7 (cutS x none (some 7)) := by
  have e : (cutS x none (some 7)).cps.toList = (x.cps.toList.drop (HT.sIx x.length 0 none)).take (HT.sIx x.length x.length (some 7) - HT.sIx x.length 0 none) := by
    unfold cutS
    simp
  refine ⟨?_, fun c hc => h.2 c ?_⟩
  · rw [← len_str, e, List.length_take]
    have : HT.sIx x.length x.length (some ((7 : Nat) : Int)) = min 7 x.length := HT.sIx_nat _ _ 7
    have e2 : HT.sIx x.length x.length (some 7) = min 7 x.length := this
    omega
  · rw [e] at hc
    exact List.mem_of_mem_drop (List.mem_of_mem_take hc)
theorem snoc_inj {x y : Str} {c d : Nat} (h : x ++ (⟨#[c]⟩ : Str) = y ++ ⟨#[d]⟩) : c = d := by
  have e := congrArg (fun z : Str => z.cps.toList) h
  simp only [app_cps, one_cps] at e
  have := List.append_inj' e rfl
  simpa using this.2
end Fb
set_option Elab.async false
set_option linter.all false
set_option maxRecDepth 100000
set_option maxHeartbeats 4000000
/-! The law's names and pairs. -/
namespace Fb
open PySem PySem.Spec PyProof.Rows L2
section
variable {P : Program} {w : World} {K : PySem.W.Frag} {mg : Str → Option Value} {base : Heap}
/-- the j-th name ends in its own letter -/
def NmsAt (f : Nat) (l : List Str) : Prop := ∀ (k : Nat) (x : Str), l[k]? = some x → Nm x ∧ ∃ s, x = s ++ (⟨#[97 + (f + 3 * k) % 26]⟩ : Str)
theorem NmsAt.snoc {f : Nat} {l : List Str} (h : NmsAt f l) {s : Str} (hs : Stem 7 s) : NmsAt f (l ++ [s ++ ⟨#[97 + (f + 3 * l.length) % 26]⟩]) := by
  intro k x e
  by_cases hk : k < l.length
  · rw [List.getElem?_append_left hk] at e
    exact h k x e
  · have hk2 := (List.getElem?_eq_some_iff.mp e).1
    have hk3 : k = l.length := by simp at hk2; omega
    subst hk3
    simp at e
    subst e
    exact ⟨hs.nm (Nat.mod_lt _ (by decide)), s, rfl⟩
theorem NmsAt.nodup {f : Nat} {l : List Str} (h : NmsAt f l) (hl : l.length ≤ 8) : l.Nodup := by
  refine List.pairwise_iff_getElem.mpr fun i j hi hj hij e => ?_
  obtain ⟨_, s, e1⟩ := h i _ (List.getElem?_eq_getElem hi)
  obtain ⟨_, t, e2⟩ := h j _ (List.getElem?_eq_getElem hj)
  rw [e1, e2] at e
  have := snoc_inj e
  omega
theorem tyL {H : Hp} {p : Addr} {xs : List V} (h : H p = some (.lst xs)) : tyV K "list" (.ref p) H := .inl ⟨rfl, xs, SqL.of h⟩
theorem with_q {t : TT} {σ : L2.St} {H : Hp} {Q : Bool → Hp → Prop} (G : Hp → Prop) (hF : ∀ H', G H' → Q false H') (k : (∀ H', G H' → Q false H') → t σ H Q) : t σ H Q := k hF
def sp__law_names : Sp := fun vs H Q _ => ∃ (a : Addr) (n m : Nat), vs = [.ref a, nV m] ∧ m ≤ 8 ∧ WellAt H a n ∧ n + 100 ≤ 1000000000 ∧
  ∀ (l : Addr) (ns : List Str) H', H' l = some (.lst (sVs ns)) → ns.length = m → (∀ x ∈ ns, Nm x) → ns.Nodup → WellAt H' a (n + 100) → Off [a] H H' → Q (.ref l) H'
theorem ok__law_names (T : Txt K mg) : FnOk P w K mg base CX0 3 T.f__law_names T.fd__law_names ["_law_well_here", "_law_many"] sp__law_names := by
  have G__law_draw : FnOk P w K mg base CX0 1 T.f__law_draw T.fd__law_draw ["_law_well_here", "_law_many"] sp__law_draw := ok__law_draw T
  have G__law_one : FnOk P w K mg base CX0 2 T.f__law_one T.fd__law_one ["_law_well_here", "_law_some_here"] (sp__law_one K) := ok__law_one T
  refine T.F__law_names.ok sc__law_names (fun vs H Q E h => ?_) (fun cdv A outer s H vs Q E hr h => ?_)
  · obtain ⟨a, n, m, rfl, _⟩ := h
    rfl
  · obtain ⟨a, n, m, rfl, hm, hw, hn, q⟩ := h
    refine ⟨_, (pss_cons (ps_set (i := 2) sc__law_names.nd rfl (Or.inl rfl) (pe_lst pa_nil))
    (pss_cons (ps_set (i := 3) sc__law_names.nd rfl (Or.inl rfl) (pe_call G__law_draw (hr.mono (by omega)) (by rfl) T.m__law_draw T.F__law_draw.kp T.b__law_draw .nil pass0 (pa_cons (pv 0) (pa_cons pe_int pa_nil))))
    (pss_cons (ps_for PassesOwn.never (by rfl) (pi_range1 (by rfl) T.n_range (pa_cons (pv 1) pa_nil)) (pg_name (i := 4) sc__law_names.nd rfl (Or.inl rfl)) (pss_cons (ps_set (i := 5) sc__law_names.nd rfl (Or.inl rfl) pe_str)
      (Evl.pss_cut (ps_if (PW.pt (pw_and (pt_cmpR (op_neD hr.units) (pv 2) (pe_lst pa_nil) (nomark _)) (pw_and1 (pt_cmpR op_eq (pe_call G__law_draw (hr.mono (by omega)) (by rfl) T.m__law_draw T.F__law_draw.kp T.b__law_draw .nil pass0 (pa_cons (pv 0) (pa_cons pe_int pa_nil))) pe_int (nomark _))))) (pss_one (ps_set (i := 5) sc__law_names.nd rfl (Or.inl rfl) (pe_slice sl_str (pe_call G__law_one (hr.mono (by omega)) (by rfl) T.m__law_one T.F__law_one.kp T.b__law_one .nil pass0 (pa_cons (pv 0) (pa_cons (pv 2) pa_nil))) po_none (po_some pe_int)))) (pss_one (ps_for PassesOwn.never (by rfl) (pi_range1 (by rfl) T.n_range (pa_cons (pe_call G__law_one (hr.mono (by omega)) (by rfl) T.m__law_one T.F__law_one.kp T.b__law_one .nil pass0 (pa_cons (pv 0) (pa_cons (pe_lst (pa_cons pe_int (pa_cons pe_int (pa_cons pe_int (pa_cons pe_int (pa_cons pe_int pa_nil)))))) pa_nil))) pa_nil)) (pg_name (i := 6) sc__law_names.nd rfl (Or.inl rfl)) (pss_one (ps_set (i := 5) sc__law_names.nd rfl (Or.inl rfl) (pe_op op_add_str (pv 5) (pe_ix ix_str pe_str (pe_call G__law_draw (hr.mono (by omega)) (by rfl) T.m__law_draw T.F__law_draw.kp T.b__law_draw .nil pass0 (pa_cons (pv 0) (pa_cons pe_int pa_nil))) (fun _ _ => rfl))))))))
      (pss_one (ps_expr (pe_bm PySem.F.plainAttrs_list PySem.F.slot_list_append PySem.F.type_list_append mt_append (pv 2) (pa_cons (pe_op op_add_str (pv 5) (pe_ix ix_str pe_str (pe_op op_mod (pe_op op_add (pv 3) (pe_op op_mul pe_int (pv 4))) pe_int) (fun _ _ => rfl))) pa_nil)))))))
    (pss_one (ps_ret (pv 2)))))), ?_⟩
    refine ⟨by decide, fun p hp => ?_⟩
    have hap : a ≠ p := fun e => by
      obtain ⟨x, y, z, h1, _⟩ := hw
      rw [e, hp] at h1; cases h1
    refine ⟨_, rfl, a, 26, n, rfl, by decide, by decide, hw.same (Same.new hp), by omega, fun fI H1 f0 f1 hw1 ho1 => ?_⟩
    obtain ⟨f, rfl⟩ : ∃ f : Nat, fI = (f : Int) := ⟨fI.toNat, by omega⟩
    have hp1 : H1 p = some (.lst []) := ho1 _ _ (by simp [Ne.symm hap]) upd_same
    refine ⟨_, rfl, m, rfl, by omega, by omega, ?_⟩
    refine for_it walk_range (fun i σ H' => ∃ (ns : List Str) (v4 v5 v6 : Option V), σ = [some (.ref a), some (nV m), some (.ref p), some (nV f), v4, v5, v6] ∧ H' p = some (.lst (sVs ns)) ∧ ns.length = i ∧ NmsAt f ns ∧ WellAt H' a (n + 1 + 10 * i) ∧ Off [a] H H') ?_ (fun _ _ _ _ _ => True.intro) ?_ ?_
    · exact ⟨[], none, none, none, rfl, hp1, rfl, fun k x e => by simp at e, by simpa using hw1, (Same.off (Same.new hp)).trans ho1⟩
    · rintro i x σ _ H2 hi ⟨ns, v4, v5, v6, rfl, hl, hz, hN, hw2, ho2⟩ ⟨rfl, rfl⟩
      have hm' : i < m := by simpa using hi
      have hpN : ∀ {H3 : Hp}, H3 p = some (.lst (sVs ns)) → ∀ l, H3 l = none → p ≠ l := fun h l e z => by rw [z, e] at h; cases h
      have hap' : p ∉ [a] := by simpa using Ne.symm hap
      refine ⟨fun σ' H3 => ∃ (s : Str) (v6 : Option V), σ' = [some (.ref a), some (nV m), some (.ref p), some (nV f), some (nV i), some (.str s), v6] ∧ Stem 7 s ∧ H3 p = some (.lst (sVs ns)) ∧ WellAt H3 a (n + 1 + 10 * i + 10) ∧ Off [a] H H3, ?_, ?_⟩
      · show tAnd _ _ _ _ _
        refine with_q (fun H3 => H3 p = some (.lst (sVs ns)) ∧ WellAt H3 a (n + 1 + 10 * i + 1) ∧ Off [a] H H3) ?_ fun hF => ?_
        · rintro H3 ⟨hl3, hw3, ho3⟩
          refine ⟨_, rfl, by decide, fun l hl => ⟨a, l, n + 1 + 10 * i + 1, _, rfl, fun e => ?_, upd_same, by simp, by simp, hw3.same (Same.new hl), by omega, fun x H4 hx hw4 ho4 => ?_⟩⟩
          · obtain ⟨x, y, z, h1, _⟩ := hw3
            rw [e, hl] at h1; cases h1
          obtain ⟨k, rfl, hk⟩ : ∃ k : Nat, x = nV k ∧ k ≤ 7 := by
            simp only [List.mem_cons, List.not_mem_nil, or_false] at hx
            rcases hx with rfl | rfl | rfl | rfl | rfl
            · exact ⟨0, rfl, by decide⟩
            · exact ⟨0, rfl, by decide⟩
            · exact ⟨1, rfl, by decide⟩
            · exact ⟨3, rfl, by decide⟩
            · exact ⟨7, rfl, by decide⟩
          have hl4 : H4 p = some (.lst (sVs ns)) := ho4 _ _ hap' (Same.new hl _ _ hl3)
          have ho4' : Off [a] H H4 := ho3.trans ((Same.off (Same.new hl)).trans ho4)
          refine ⟨_, rfl, by omega, by omega, ?_⟩
          refine for_it walk_range (fun j σ H' => ∃ (s : Str) (v6 : Option V), σ = [some (.ref a), some (nV m), some (.ref p), some (nV f), some (nV i), some (.str s), v6] ∧ Stem j s ∧ H' p = some (.lst (sVs ns)) ∧ WellAt H' a (n + 1 + 10 * i + 2 + j) ∧ Off [a] H H') ?_ (fun _ _ _ _ _ => True.intro) ?_ ?_
          · refine ⟨"", v6, ?_, stem_nil, hl4, hw4.mono (by omega), ho4'⟩
            simp
          · rintro j x σ _ H5 hj ⟨s, v6, rfl, hs, hl5, hw5, ho5⟩ ⟨rfl, rfl⟩
            have hj' : j < k := by simpa using hj
            refine ⟨_, rfl, _, rfl, a, 26, _, rfl, by decide, by decide, hw5, by omega, fun rI H6 r0 r1 hw6 ho6 => ?_⟩
            obtain ⟨r, rfl⟩ : ∃ r : Nat, rI = (r : Int) := ⟨rI.toNat, by omega⟩
            have hr26 : r < 26 := by omega
            refine ⟨_, _, _, rfl, rfl, by decide +kernel, atI_nat (let_at hr26), ?_⟩
            refine ⟨_, _, rfl, rfl, ?_, ?_⟩
            · have := hs.1
              rw [one_len]
              exact Nat.le_trans (by omega : _ ≤ 100000) (big' (Nat.le_refl _))
            · exact ⟨_, some (nV j), by simp, hs.snoc hr26, ho6 _ _ hap' hl5, hw6, ho5.trans ho6⟩
          · rintro σ H5 ⟨s, v6, rfl, hs, hl5, hw5, ho5⟩
            have hk2 : ((k : Int)).toNat = k := by simp
            exact ⟨s, v6, rfl, ⟨Nat.le_trans hs.1 (by omega), hs.2⟩, hl5, hw5.mono (by omega), ho5⟩
        · refine ⟨_, rfl, by decide, fun p2 hp2 => ⟨_, _, dp_strs (Same.new hp2 _ _ hl), dp_nil upd_same, shp_strs fun x hx => (by
            obtain ⟨k, hk⟩ := List.mem_iff_getElem?.mp hx
            have := (hN k x hk).1
            exact strOk_nm this.2 this.1.2), shp_nil, ?_⟩⟩
          refine ⟨_, rfl, ?_⟩
          rw [eqv_nil]
          by_cases he : ns = []
          · subst he
            exact hF _ ⟨Same.new hp2 _ _ hl, (hw2.same (Same.new hp2)).mono (by omega), ho2.trans (Same.off (Same.new hp2))⟩
          · have e1 : (ns.map PyData.str).isEmpty = false := by cases ns with
              | nil => exact absurd rfl he
              | cons _ _ => rfl
            rw [e1]
            have hw3 := hw2.same (Same.new hp2 (o := .lst []))
            have hl3 : (upd H2 p2 (.lst [])) p = some (.lst (sVs ns)) := Same.new hp2 _ _ hl
            refine ⟨_, rfl, a, 4, _, rfl, by decide, by decide, hw3, by omega, fun r H4 r0 r1 hw4 ho4 => ?_⟩
            have hl4 := ho4 _ _ hap' hl3
            have ho4' : Off [a] H H4 := ho2.trans ((Same.off (Same.new hp2)).trans ho4)
            refine ⟨rfl, _, rfl, ?_⟩
            by_cases hr0 : r = 0
            · subst hr0
              refine iteT ?_
              refine ⟨_, rfl, _, rfl, a, p, _, _, rfl, hap, hl4, by simpa [sVs] using he, by rw [sVs_len]; omega, hw4, by omega, fun x H5 hx hw5 ho5 => ?_⟩
              obtain ⟨s, hs, rfl⟩ := List.mem_map.mp hx
              have hsN : Nm s := by
                obtain ⟨k, hk⟩ := List.mem_iff_getElem?.mp hs
                exact (hN k s hk).1
              refine ⟨_, rfl, s, rfl, Nat.le_trans hsN.1.2 (by decide), ?_⟩
              exact ⟨_, v6, by simp, cut_stem hsN, ho5 _ _ hap' hl4, hw5.mono (by omega), ho4'.trans ho5⟩
            · have e2 : decide (V.int r = V.int 0) = false := decide_eq_false fun e => hr0 (by injection e)
              rw [e2]
              exact hF _ ⟨hl4, hw4.mono (by omega), ho4'⟩
      · rintro σ' H3 ⟨s, v6, rfl, hs, hl3, hw3, ho3⟩
        have hj : (f + 3 * i) % 26 < 26 := Nat.mod_lt _ (by decide)
        refine ⟨_, rfl, tyL hl3, _, rfl, _, rfl, _, rfl, _, _, rfl, rfl, .inl ⟨by omega, by omega⟩, ?_⟩
        refine ⟨_, _, rfl, rfl, _, _, rfl, rfl, (by show (0 : Int) < 26; decide), _, _, _, rfl, rfl, by decide +kernel, atI_nat (j := (f + 3 * i) % 26) (let_at hj), ?_⟩
        refine ⟨_, _, rfl, rfl, ?_, ?_⟩
        · have := hs.1
          rw [one_len]
          exact Nat.le_trans (by omega : _ ≤ 100000) (big' (Nat.le_refl _))
        refine ⟨p, _, _, rfl, rfl, hl3, ?_, ?_⟩
        · rw [sVs_len]
          exact big (by omega)
        have hpq : ∀ b o, b ≠ p → H3 b = some o → (upd H3 p (.lst (sVs ns ++ [.str (s ++ ⟨#[97 + (f + 3 * i) % 26]⟩)]))) b = some o := fun b o n e => by rw [upd_ne n]; exact e
        refine ⟨ns ++ [s ++ ⟨#[97 + (f + 3 * i) % 26]⟩], _, _, v6, rfl, ?_, by simp [hz], ?_, ?_, ?_⟩
        · rw [upd_same]
          simp [sVs]
        · have := hN.snoc hs
          rw [hz] at this
          exact this
        · obtain ⟨x, y, z, h1, h2⟩ := hw3.mono (show n + 1 + 10 * i + 10 ≤ n + 1 + 10 * (i + 1) by omega)
          exact ⟨x, y, z, hpq _ _ hap h1, h2⟩
        · intro b o hb hb2
          refine hpq _ _ (fun e => ?_) (ho3 b o hb hb2)
          rw [e, hp] at hb2; cases hb2
    · rintro σ H2 ⟨ns, v4, v5, v6, rfl, hl, hz, hN, hw2, ho2⟩
      refine ⟨_, rfl, ?_⟩
      have hz' : ns.length = m := by simpa using hz
      exact q p ns H2 hl hz' (fun x hx => by obtain ⟨k, hk⟩ := List.mem_iff_getElem?.mp hx; exact (hN k x hk).1) (hN.nodup (by omega)) (hw2.mono (by omega)) ho2
end
end Fb
set_option Elab.async false
set_option linter.all false
set_option maxRecDepth 100000
set_option maxHeartbeats 4000000
/-! The law's pairs. -/
namespace Fb
open PySem PySem.Spec PyProof.Rows L2
def PairV (H : Hp) (v : V) (p : Str × Option Str) : Prop := ∃ a, v = .ref a ∧ H a = some (.tup [.str p.1, optV p.2])
def PairsL (H : Hp) (l : Addr) (ps : Prs Str) : Prop := ∃ vs, H l = some (.lst vs) ∧ Paired (PairV H) vs ps
theorem PairV.mono {H H' : Hp} (e : Same H H') {v : V} {p : Str × Option Str} (h : PairV H v p) : PairV H' v p := by
  obtain ⟨a, h1, h2⟩ := h
  exact ⟨a, h1, e _ _ h2⟩
theorem PairsL.mono {H H' : Hp} (e : Same H H') {l : Addr} {ps : Prs Str} (h : PairsL H l ps) : PairsL H' l ps := by
  obtain ⟨vs, h1, h2⟩ := h
  exact ⟨vs, e _ _ h1, Paired.mapP h2 fun _ _ z => z.mono e⟩
theorem cut_hi {xs : List V} {lo : Option Int} {i : Nat} {x : V} (h : x ∈ cutV xs lo (some (i : Int))) : ∃ j, j < i ∧ xs[j]? = some x := by
  unfold cutV at h
  obtain ⟨k, hk⟩ := List.mem_iff_getElem?.mp h
  rw [List.getElem?_take] at hk
  split at hk
  · rename_i h1
    rw [List.getElem?_drop] at hk
    rw [HT.sIx_nat] at h1
    exact ⟨_, by omega, hk⟩
  · cases hk
theorem cut_to {xs : List V} {i : Nat} (h : i ≤ xs.length) : (cutV xs none (some (i : Int))).length = i := by
  unfold cutV
  rw [List.length_take, List.length_drop, HT.sIx_nat, HT.sIx_none]
  omega
theorem cut_ft {xs : List V} {i j : Nat} (h : i ≤ xs.length) : (cutV xs (some (j : Int)) (some (i : Int))).length = i - j := by
  unfold cutV
  rw [List.length_take, List.length_drop, HT.sIx_nat, HT.sIx_nat]
  omega
theorem put_tup {H : Hp} {p b : Addr} {xs ys : List V} {o : HO} (hp : H p = some (.lst xs)) (hb : H b = some (.tup ys)) : (upd H p o) b = some (.tup ys) := by
  rw [upd_ne (fun e => by rw [e, hp] at hb; cases hb)]; exact hb
theorem PairV.put {H : Hp} {p : Addr} {xs : List V} {o : HO} (hp : H p = some (.lst xs)) {v : V} {x : Str × Option Str} (h : PairV H v x) : PairV (upd H p o) v x := by
  obtain ⟨a, h1, h2⟩ := h
  exact ⟨a, h1, put_tup hp h2⟩
/-- p is new to H: what is put there later stands off -/
theorem Off.newer {W : List Addr} {H H1 : Hp} {p : Addr} {o : HO} (h : Off W H H1) (hp : H p = none) : Off W H (upd H1 p o) := fun b u n q => by
  rw [upd_ne (fun e => by rw [e, hp] at q; cases q)]
  exact h b u n q
theorem WellAt.put {H : Hp} {a p : Addr} {n : Nat} {o : HO} (h : WellAt H a n) (hp : a ≠ p) : WellAt (upd H p o) a n := by
  obtain ⟨x, y, z, h1, h2⟩ := h
  exact ⟨x, y, z, by rw [upd_ne hp]; exact h1, h2⟩
section
variable {P : Program} {w : World} {K : PySem.W.Frag} {mg : Str → Option Value} {base : Heap}
def sp__law_pairs : Sp := fun vs H Q _ => ∃ (a : Addr) (n m : Nat), vs = [.ref a, nV m] ∧ m ≤ 8 ∧ WellAt H a n ∧ n + 200 ≤ 1000000000 ∧
  ∀ (l : Addr) (ps : Prs Str) H', PairsL H' l ps → l ≠ a → ps.length = m → GoodP ps → (∀ x ∈ ps, Nm x.1) → WellAt H' a (n + 200) → Off [a] H H' → Q (.ref l) H'
theorem well_ne {H : Hp} {a p : Addr} {n : Nat} (h : WellAt H a n) (hp : H p = none) : a ≠ p := fun e => by
  obtain ⟨x, y, z, h1, _⟩ := h
  rw [e, hp] at h1; cases h1
theorem ok__law_pairs (T : Txt K mg) : FnOk P w K mg base CX0 4 T.f__law_pairs T.fd__law_pairs ["_law_well_here", "_law_many"] sp__law_pairs := by
  have G__law_draw : FnOk P w K mg base CX0 1 T.f__law_draw T.fd__law_draw ["_law_well_here", "_law_many"] sp__law_draw := ok__law_draw T
  have G__law_names : FnOk P w K mg base CX0 3 T.f__law_names T.fd__law_names ["_law_well_here", "_law_many"] sp__law_names := ok__law_names T
  refine T.F__law_pairs.ok sc__law_pairs (fun vs H Q E h => ?_) (fun cdv A outer s H vs Q E hr h => ?_)
  · obtain ⟨a, n, m, rfl, _⟩ := h
    rfl
  · obtain ⟨a, n, m, rfl, hm, hw, hn, q⟩ := h
    refine ⟨_, (pss_cons (ps_set (i := 2) sc__law_pairs.nd rfl (Or.inl rfl) (pe_call G__law_names (hr.mono (by omega)) (by rfl) T.m__law_names T.F__law_names.kp T.b__law_names .nil pass0 (pa_cons (pv 0) (pa_cons (pv 1) pa_nil))))
    (pss_cons (ps_set (i := 3) sc__law_pairs.nd rfl (Or.inl rfl) (pe_lst pa_nil))
    (pss_cons (ps_for PassesOwn.never (by rfl) (pi_enum (by rfl) T.n_enumerate (pa_cons (pv 2) pa_nil)) (pg_tup (by rfl) (pgs_cons (pg_name (i := 4) sc__law_pairs.nd rfl (Or.inl rfl)) (pgs_cons (pg_name (i := 5) sc__law_pairs.nd rfl (Or.inl rfl)) pgs_nil))) (pss_one (ps_expr (pe_bm PySem.F.plainAttrs_list PySem.F.slot_list_append PySem.F.type_list_append mt_append (pv 3) (pa_cons (pe_tup (pa_cons (pv 5) (pa_cons (pe_ix ix_list (pe_op op_cat (pe_op op_cat (pe_lst (pa_cons pe_non pa_nil)) (pe_slice sl_list (pv 2) po_none (po_some (pv 4)))) (pe_slice sl_list (pv 2) (po_some (pe_callB (call_max2 (by rfl)) (by rfl) T.n_max (by decide +kernel) (pa_cons pe_int (pa_cons (pe_op op_sub (pv 4) pe_int) pa_nil)))) (po_some (pv 4)))) (pe_call G__law_draw (hr.mono (by omega)) (by rfl) T.m__law_draw T.F__law_draw.kp T.b__law_draw .nil pass0 (pa_cons (pv 0) (pa_cons (pe_op op_add (pe_op op_add (pv 4) pe_int) (pe_callTy call_int1 (by rfl) T.n_int (by decide +kernel) (pa_cons (pe_cmpR op_gt (pv 4) pe_int (nomark _)) pa_nil))) pa_nil))) (fun _ _ => rfl)) pa_nil))) pa_nil)))))
    (pss_one (ps_ret (pv 3)))))), ?_⟩
    refine ⟨_, rfl, _, rfl, a, n, m, rfl, hm, hw, by omega, fun l ns H1 hl hz hN nd hw1 ho1 => ?_⟩
    refine ⟨by decide, fun p hp => ?_⟩
    have hap := well_ne hw1 hp
    have hlp : l ≠ p := fun e => by rw [← e, hl] at hp; cases hp
    have hla : l ≠ a := fun e => by
      obtain ⟨x, y, z, h1, _⟩ := hw1
      rw [← e, hl] at h1
      injection h1 with h1
      injection h1 with h1
      cases ns with
      | nil => cases h1
      | cons _ _ => injection h1 with h2 h3; cases h2
    have hpH : H p = none := by
      cases e : H p with
      | none => rfl
      | some o =>
        have := ho1 p o (by simpa using Ne.symm hap) e
        rw [hp] at this; cases this
    refine ⟨_, rfl, l, _, rfl, SqL.of (Same.new hp _ _ hl), ?_⟩
    refine for_it (walk_enum (K := K) (a := l) (xs := sVs ns)) (fun i σ H' => ∃ (ps : Prs Str) (v4 v5 : Option V) (vs : List V), σ = [some (.ref a), some (nV m), some (.ref l), some (.ref p), v4, v5] ∧ H' l = some (.lst (sVs ns)) ∧ H' p = some (.lst vs) ∧ Paired (PairV H') vs ps ∧ ps.map (·.1) = ns.take i ∧
      (∀ (k : Nat) (c o : Str), ps[k]? = some (c, some o) → ∃ j, j < k ∧ ns[j]? = some o) ∧ WellAt H' a (n + 100 + i) ∧ Off [a] H H') ?_ ?_ ?_ ?_
    · exact ⟨[], none, none, [], rfl, Same.new hp _ _ hl, upd_same, .nil, rfl, fun k c o e => by simp at e, hw1.same (Same.new hp), ho1.trans (Same.off (Same.new hp))⟩
    · rintro i σ H' hi ⟨ps, v4, v5, vs, rfl, h1, _⟩
      exact SqL.of h1
    · rintro i x σ H2 H3 hi ⟨ps, v4, v5, vs, rfl, hl2, hp2, hP, hns, hov, hw2, ho2⟩ ⟨t, y, z, rfl, ht, rfl, hy, hz2⟩
      cases hy
      have hz3 : (sVs ns)[i]? = some z := hz2
      rw [sVs_get] at hz3
      obtain ⟨nm, hnm, rfl⟩ := Option.map_eq_some_iff.mp hz3
      have hi' : i < ns.length := (List.getElem?_eq_some_iff.mp hnm).1
      refine ⟨t, _, rfl, SqT.of upd_same, rfl, _, _, rfl, _, _, rfl, rfl, ?_⟩
      have s3 : Same H2 (upd H2 t (.tup [nV i, .str nm])) := Same.new ht
      refine ⟨_, rfl, tyL (s3 _ _ hp2), _, rfl, by decide, fun q1 hq1 => ?_⟩
      have s4 := s3.trans (Same.new hq1 (o := .lst [.non]))
      refine ⟨_, rfl, _, rfl, _, rfl, l, _, rfl, SqL.of (s4 _ _ hl2), fun q2 hq2 => ?_⟩
      have s5 := s4.trans (Same.new hq2 (o := .lst (cutV (sVs ns) none (some (i : Int)))))
      have c1 := cut_to (xs := sVs ns) (i := i) (by rw [sVs_len]; omega)
      refine ⟨q1, q2, [.non], _, rfl, rfl, Same.new hq2 _ _ upd_same, upd_same, ?_, fun q3 hq3 => ?_⟩
      · rw [c1]
        exact big' (by simp; omega)
      have s6 := s5.trans (Same.new hq3 (o := .lst ([.non] ++ cutV (sVs ns) none (some (i : Int)))))
      refine ⟨_, rfl, _, rfl, _, _, rfl, rfl, _, _, rfl, _, rfl, _, rfl, _, rfl, l, _, rfl, SqL.of (s6 _ _ hl2), fun q4 hq4 => ?_⟩
      obtain ⟨lo, hlo⟩ : ∃ lo : Nat, (if (i : Int) - 1 > 0 then (i : Int) - 1 else 0) = (lo : Int) ∧ lo = i - 1 := ⟨i - 1, by split <;> omega, rfl⟩
      rw [hlo.1]
      have c2 := cut_ft (xs := sVs ns) (i := i) (j := lo) (by rw [sVs_len]; omega)
      have s7 := s6.trans (Same.new hq4 (o := .lst (cutV (sVs ns) (some (lo : Int)) (some (i : Int)))))
      refine ⟨q3, q4, _, _, rfl, rfl, Same.new hq4 _ _ upd_same, upd_same, ?_, fun q5 hq5 => ?_⟩
      · rw [List.length_append, c1, c2]
        exact big' (by simp; omega)
      have s8 := s7.trans (Same.new hq5 (o := .lst (([V.non] ++ cutV (sVs ns) none (some (i : Int))) ++ cutV (sVs ns) (some (lo : Int)) (some (i : Int)))))
      refine ⟨_, rfl, _, rfl, _, _, rfl, rfl, _, rfl, _, _, rfl, rfl, .inr ⟨_, rfl, _, _, rfl, rfl, ?_⟩⟩
      obtain ⟨M, hM, hMl⟩ : ∃ M : Nat, (i : Int) + 1 + (if decide ((0 : Int) < (i : Int)) = true then 1 else 0) = (M : Int) ∧ M = 1 + i + (i - lo) := by
        by_cases h0 : (0 : Int) < (i : Int)
        · exact ⟨1 + i + (i - lo), by rw [if_pos (decide_eq_true h0)]; omega, rfl⟩
        · exact ⟨1 + i + (i - lo), by rw [if_neg (by rw [decide_eq_false h0]; decide)]; omega, rfl⟩
      have hz8 : ns.length ≤ 8 := by omega
      refine ⟨a, M, n + 100 + i, by rw [← hM]; rfl, by omega, Int.lt_of_le_of_lt (b := 100) (by omega) (by decide), hw2.same s8, by omega, fun r H4 r0 r1 hw4 ho4 => ?_⟩
      obtain ⟨j, rfl⟩ : ∃ j : Nat, r = (j : Int) := ⟨r.toNat, by omega⟩
      have hq5a : q5 ∉ [a] := by
        have := well_ne (hw2.same s7) hq5
        simpa using Ne.symm this
      have hj : j < (([V.non] ++ cutV (sVs ns) none (some (i : Int))) ++ cutV (sVs ns) (some (lo : Int)) (some (i : Int))).length := by
        rw [List.length_append, List.length_append, c1, c2]
        simp; omega
      refine ⟨q5, _, _, _, rfl, rfl, SqL.of (ho4 _ _ hq5a upd_same), atI_nat (List.getElem?_eq_getElem hj), ?_⟩
      obtain ⟨o, ho, ho2'⟩ : ∃ o : Option Str, (([V.non] ++ cutV (sVs ns) none (some (i : Int))) ++ cutV (sVs ns) (some (lo : Int)) (some (i : Int)))[j] = optV o ∧ ∀ c, o = some c → ∃ j, j < i ∧ ns[j]? = some c := by
        have hm := List.getElem_mem hj
        have cc : ∀ {x : V} {lo : Option Int}, x ∈ cutV (sVs ns) lo (some (i : Int)) → ∃ o : Option Str, x = optV o ∧ ∀ c, o = some c → ∃ j, j < i ∧ ns[j]? = some c := by
          intro x lo hx
          obtain ⟨j, hj1, hj2⟩ := cut_hi hx
          rw [sVs_get] at hj2
          obtain ⟨c, hc, rfl⟩ := Option.map_eq_some_iff.mp hj2
          exact ⟨some c, rfl, fun d hd => by cases hd; exact ⟨j, hj1, hc⟩⟩
        rcases List.mem_append.mp hm with hm | hm
        · rcases List.mem_append.mp hm with hm | hm
          · exact ⟨none, List.mem_singleton.mp hm, fun c hc => by cases hc⟩
          · exact cc hm
        · exact cc hm
      rw [ho]
      have hp4 : H4 p = some (.lst vs) := ho4 _ _ (by simpa using Ne.symm hap) (s8 _ _ hp2)
      refine ⟨big' (by simp), fun q6 hq6 => ?_⟩
      have hpq : p ≠ q6 := fun e => by rw [← e, hp4] at hq6; cases hq6
      refine ⟨p, vs, _, rfl, rfl, Same.new hq6 _ _ hp4, ?_, ?_⟩
      · have h1 := Paired.length hP
        have h2 : ps.length = i := by
          have := congrArg List.length hns
          rw [List.length_map, List.length_take] at this
          omega
        exact big (by omega)
      have hp6 : (upd H4 q6 (.tup [.str nm, optV o])) p = some (.lst vs) := Same.new hq6 _ _ hp4
      have s6' : Same H4 (upd H4 q6 (.tup [.str nm, optV o])) := Same.new hq6
      have oa : Off [a] H2 H4 := (Same.off s8).trans ho4
      refine ⟨ps ++ [(nm, o)], _, _, vs ++ [.ref q6], rfl, ?_, upd_same, ?_, ?_, ?_, ?_, ?_⟩
      · rw [upd_ne hlp]
        exact s6' _ _ (oa _ _ (by simpa using hla) hl2)
      · refine Paired.snoc (Paired.mapP hP fun v x hv => ?_) ?_
        · obtain ⟨b, hb1, hb2⟩ := hv
          have hba : b ≠ a := fun e => by
            obtain ⟨x, y, z, h1, _⟩ := hw2
            rw [← e, hb2] at h1; cases h1
          exact PairV.put hp6 ⟨b, hb1, s6' _ _ (oa _ _ (by simpa using hba) hb2)⟩
        · exact PairV.put hp6 ⟨q6, rfl, upd_same⟩
      · rw [List.map_append, hns, List.take_add_one, hnm]
        rfl
      · intro k c o' e
        by_cases hk : k < ps.length
        · rw [List.getElem?_append_left hk] at e
          exact hov k c o' e
        · have hk2 := (List.getElem?_eq_some_iff.mp e).1
          have hk3 : k = ps.length := by simp at hk2; omega
          subst hk3
          simp at e
          obtain ⟨rfl, rfl⟩ := e
          have h2 : ps.length = i := by
            have := congrArg List.length hns
            rw [List.length_map, List.length_take] at this
            omega
          rw [h2]
          exact ho2' _ rfl
      · exact ((hw4.same s6').put hap).mono (by omega)
      · exact (ho2.trans (oa.trans (Same.off s6'))).newer hpH
    · rintro σ H2 ⟨ps, v4, v5, vs, rfl, hl2, hp2, hP, hns, hov, hw2, ho2⟩
      refine ⟨_, rfl, ?_⟩
      rw [sVs_len, List.take_length] at hns
      rw [sVs_len] at hw2
      have hpl : ps.length = m := by rw [← hz, ← hns, List.length_map]
      refine q p ps H2 ⟨vs, hp2, hP⟩ (Ne.symm hap) hpl ⟨by rw [hns]; exact nd, ?_, by omega⟩ (fun x hx => hN _ (by rw [← hns]; exact List.mem_map.mpr ⟨x, hx, rfl⟩)) (hw2.mono (by omega)) ho2
      intro k c o e
      obtain ⟨j, hj, hj2⟩ := hov k c o e
      refine ⟨j, hj, ?_⟩
      rw [← hns, List.getElem?_map] at hj2
      obtain ⟨pr, h1, rfl⟩ := Option.map_eq_some_iff.mp hj2
      exact ⟨pr.2, h1⟩
end
end Fb
set_option Elab.async false
set_option linter.all false
set_option maxRecDepth 100000
set_option maxHeartbeats 4000000
/-! The law's order, values. -/
namespace Fb
open PySem PySem.Spec PyProof.Rows L2
theorem Same.fresh {H H' : Hp} (e : Same H H') {p : Addr} (h : H' p = none) : H p = none := by
  cases h2 : H p with
  | none => rfl
  | some o => rw [e _ _ h2] at h; cases h
def bo (ps : Prs Str) : Option Str → List Str
  | none => order ps
  | some c => ben ps 8 c
def rkO (ps : Prs Str) : Option Str → Nat
  | none => 9
  | some c => rankP ps c
theorem bo_eq {ps : Prs Str} (g : GoodP ps) {o : Option Str} (ho : ∀ c, o = some c → ∃ q, (c, q) ∈ ps) : bo ps o = o.toList ++ (kidsOf ps o).flatMap (ben ps 8) := by
  cases o with
  | none => rfl
  | some c => exact ben_eq g (ho c rfl)
theorem rk_kid {ps : Prs Str} (g : GoodP ps) {o : Option Str} {c : Str} (h : (c, o) ∈ ps) : rkO ps (some c) < rkO ps o := by
  cases o with
  | none =>
    have := (rank_pos g h).2
    show rankP ps c < 9
    omega
  | some d => exact (rank_kid g (mem_kids.mpr h)).1
theorem rk_pos {ps : Prs Str} (g : GoodP ps) {o : Option Str} (ho : ∀ c, o = some c → ∃ q, (c, q) ∈ ps) : 1 ≤ rkO ps o := by
  cases o with
  | none => exact (by decide : 1 ≤ 9)
  | some c => obtain ⟨q, hq⟩ := ho c rfl; exact (rank_pos g hq).1
theorem optV_eq {a b : Option Str} : decide (optV a = optV b) = decide (a = b) := by
  cases a <;> cases b <;> simp [optV]
theorem scal_opt (a b : Option Str) : scal (optV a) (optV b) = true := by cases a <;> cases b <;> rfl
/-- children told ahead of a place -/
def kidsTo (ps : Prs Str) (o : Option Str) (i : Nat) : List Str := kidsOf (ps.take i) o
theorem kidsTo_succ {ps : Prs Str} {o : Option Str} {i : Nat} {x : Str × Option Str} (h : ps[i]? = some x) : kidsTo ps o (i + 1) = kidsTo ps o i ++ (if x.2 = o then [x.1] else []) := by
  unfold kidsTo kidsOf
  rw [List.take_add_one, h, List.filter_append, List.map_append]
  by_cases e : x.2 = o
  · simp [e]
  · simp [e]
theorem bo_le {ps : Prs Str} (g : GoodP ps) {o : Option Str} (ho : ∀ c, o = some c → ∃ q, (c, q) ∈ ps) : (bo ps o).length ≤ 8 := by
  cases o with
  | none => exact order_le g
  | some c => exact wid_le g (ho c rfl)
theorem kidsTo_sub {ps : Prs Str} {o : Option Str} (i : Nat) : (kidsTo ps o i).Sublist (kidsOf ps o) := ((List.take_sublist i ps).filter _).map _
theorem flat_sub {α β : Type} {f : α → List β} {l m : List α} (h : l.Sublist m) : (l.flatMap f).length ≤ (m.flatMap f).length := by
  induction h with
  | slnil => exact Nat.le_refl _
  | cons a _ ih => rw [List.flatMap_cons, List.length_append]; omega
  | cons_cons a _ ih => rw [List.flatMap_cons, List.flatMap_cons, List.length_append, List.length_append]; omega
theorem bo_part {ps : Prs Str} (g : GoodP ps) {o : Option Str} (ho : ∀ c, o = some c → ∃ q, (c, q) ∈ ps) {i : Nat} {c : Str} (h : ps[i]? = some (c, o)) :
    (o.toList ++ (kidsTo ps o i).flatMap (ben ps 8)).length + (ben ps 8 c).length ≤ 8 := by
  have h1 := bo_le g ho
  rw [bo_eq g ho] at h1
  have h2 := flat_sub (f := ben ps 8) (kidsTo_sub (ps := ps) (o := o) (i + 1))
  rw [kidsTo_succ h, if_pos rfl, List.flatMap_append] at h2
  simp only [List.length_append, List.flatMap_cons, List.flatMap_nil, List.append_nil] at h1 h2 ⊢
  omega
section
variable {P : Program} {w : World} {K : PySem.W.Frag} {mg : Str → Option Value} {base : Heap}
def sp__law_beneath (n : Nat) : Sp := fun vs H Q _ => ∃ (l : Addr) (ps : Prs Str) (o : Option Str), vs = [.ref l, optV o] ∧ PairsL H l ps ∧ GoodP ps ∧ (∀ c, o = some c → ∃ q, (c, q) ∈ ps) ∧ rkO ps o ≤ n ∧ BackL H Q (sVs (bo ps o))
theorem ok__law_beneath (T : Txt K mg) : ∀ n : Nat, FnOk P w K mg base CX0 (n + 1) T.f__law_beneath T.fd__law_beneath ["_law_pairs_here", "_law_column"] (sp__law_beneath n) := by
  intro n
  induction n with
  | zero =>
    refine T.F__law_beneath.ok sc__law_beneath (fun vs H Q E h => ?_) (fun cdv A outer s H vs Q E hr h => ?_)
    · obtain ⟨l, ps, o, rfl, _⟩ := h
      rfl
    · obtain ⟨l, ps, o, rfl, hP, g, ho, hk, q⟩ := h
      have := rk_pos g ho
      omega
  | succ n ih =>
    have G__law_beneath := ih
    refine T.F__law_beneath.ok sc__law_beneath (fun vs H Q E h => ?_) (fun cdv A outer s H vs Q E hr h => ?_)
    · obtain ⟨l, ps, o, rfl, _⟩ := h
      rfl
    · obtain ⟨l, ps, o, rfl, ⟨vs, hl, hP⟩, g, ho, hk, q⟩ := h
      refine ⟨_, (pss_cons (ps_set (i := 2) sc__law_beneath.nd rfl (Or.inl rfl) (pe_op op_rep (pe_lst (pa_cons (pv 1) pa_nil)) (pe_callTy call_int1 (by rfl) T.n_int (by decide +kernel) (pa_cons (pe_cmpR op_notN (pv 1) pe_non (nomark _)) pa_nil))))
    (pss_cons (ps_for PassesOwn.never (by rfl) (pi_list (pv 0)) (pg_tup (by rfl) (pgs_cons (pg_name (i := 3) sc__law_beneath.nd rfl (Or.inl rfl)) (pgs_cons (pg_name (i := 4) sc__law_beneath.nd rfl (Or.inl rfl)) pgs_nil))) (pss_one (ps_if (pt_cmpR op_eq (pv 4) (pv 1) (nomark _)) (pss_one (ps_set (i := 2) sc__law_beneath.nd rfl (Or.inl rfl) (pe_op op_cat (pv 2) (pe_call G__law_beneath (hr.mono (by omega)) (by rfl) T.m__law_beneath T.F__law_beneath.kp T.b__law_beneath .nil pass0 (pa_cons (pv 0) (pa_cons (pv 3) pa_nil)))))) pss_nil)))
    (pss_one (ps_ret (pv 2))))), ?_⟩
      refine ⟨_, rfl, big' (by simp), fun p hp => ⟨_, rfl, rfl, .inr ⟨_, rfl, p, _, _, rfl, rfl, upd_same, by split <;> omega, by split <;> omega, ?_, fun f hf => ?_⟩⟩⟩
      · split <;> exact big' (by simp)
      have hf0 : H f = none := Same.fresh (Same.new hp) hf
      have s0 : Same H (upd (upd H p (.lst [optV o])) f (.lst (sVs o.toList))) := (Same.new hp).trans (Same.new hf)
      have e0 : (List.replicate (if (!decide (optV o = V.non)) = true then (1 : Int) else 0).toNat [optV o]).flatten = sVs o.toList := by
        cases o with
        | none => rfl
        | some c => rfl
      rw [e0]
      refine ⟨_, rfl, l, rfl, ⟨vs, SqL.of (s0 _ _ hl)⟩, ?_⟩
      refine for_it (walk_list (K := K) (a := l) (xs := vs)) (fun i σ H' => ∃ (f : Addr) (v3 v4 : Option V), σ = [some (.ref l), some (optV o), some (.ref f), v3, v4] ∧ H f = none ∧ H' f = some (.lst (sVs (o.toList ++ (kidsTo ps o i).flatMap (ben ps 8)))) ∧ Same H H') ?_ ?_ ?_ ?_
      · exact ⟨f, none, none, rfl, hf0, by rw [upd_same]; simp [kidsTo, kidsOf], s0⟩
      · rintro i σ H' hi ⟨f, v3, v4, rfl, h1, h2, h3⟩
        exact SqL.of (h3 _ _ hl)
      · rintro i x σ H2 H3 hi ⟨f, v3, v4, rfl, h1, h2, h3⟩ ⟨rfl, hx⟩
        obtain ⟨pr, hpr, t, rfl, ht⟩ := Paired.ofL hP hx
        obtain ⟨c, u⟩ := pr
        have hmem : (c, u) ∈ ps := List.mem_of_getElem? hpr
        refine ⟨t, _, rfl, SqT.of (h3 _ _ ht), rfl, _, _, rfl, _, _, rfl, rfl, ?_⟩
        refine ⟨_, rfl, _, rfl, scal_opt u o, _, rfl, ?_⟩
        rw [optV_eq]
        by_cases e : u = o
        · refine iteD e ?_
          subst e
          have hr1 := rk_kid g hmem
          refine ⟨_, rfl, _, rfl, _, rfl, l, ps, some c, rfl, ⟨vs, h3 _ _ hl, Paired.mapP hP fun _ _ z => z.mono h3⟩, g, fun d hd => by cases hd; exact ⟨_, hmem⟩, by omega, fun r H4 hr0 s4 hr4 => ?_⟩
          refine ⟨f, r, _, _, rfl, rfl, s4 _ _ h2, hr4, ?_, fun f2 hf2 => ?_⟩
          · have h5 := bo_part g ho hpr
            simp only [bo, sVs_len, List.length_append] at h5 ⊢
            exact big' (by omega)
          · refine ⟨f2, _, _, rfl, Same.fresh (h3.trans s4) hf2, ?_, h3.trans (s4.trans (Same.new hf2))⟩
            rw [upd_same, kidsTo_succ hpr]
            simp [sVs, bo]
        · refine iteDn e ?_
          refine ⟨f, _, _, rfl, h1, ?_, h3⟩
          rw [h2, kidsTo_succ hpr]
          simp [e]
      · rintro σ H2 ⟨f, v3, v4, rfl, h1, h2, h3⟩
        refine ⟨_, rfl, q f H2 h1 h3 ?_⟩
        rw [h2, bo_eq g ho, Paired.length hP]
        unfold kidsTo
        rw [List.take_length]
end
end Fb
set_option Elab.async false
set_option linter.all false
set_option maxRecDepth 100000
set_option maxHeartbeats 4000000
/-! The law's values. -/
namespace Fb
open PySem PySem.Spec PyProof.Rows L2
section
variable {P : Program} {w : World} {K : PySem.W.Frag} {mg : Str → Option Value} {base : Heap}
def Steps (b : Int) (m : Nat) (r : List Int) : Prop := ∀ (k : Nat) (v : Int), r[k]? = some v → b * ((k : Int) - (m : Int) / 3) ≤ v ∧ v < b * ((k : Int) - (m : Int) / 3) + b
theorem Steps.nodup {b : Int} {m : Nat} {r : List Int} (hb : 1 ≤ b) (h : Steps b m r) : r.Nodup := by
  refine List.pairwise_iff_getElem.mpr fun i j hi hj hij e => ?_
  have h1 := h i _ (List.getElem?_eq_getElem hi)
  have h2 := h j _ (List.getElem?_eq_getElem hj)
  rw [e] at h1
  have h3 : b * ((i : Int) - (m : Int) / 3) + b ≤ b * ((j : Int) - (m : Int) / 3) := by
    have : b * ((i : Int) - (m : Int) / 3) + b = b * ((i : Int) - (m : Int) / 3 + 1) := by rw [Int.mul_add, Int.mul_one]
    rw [this]
    exact Int.mul_le_mul_of_nonneg_left (by omega) (by omega)
  omega
def sp__law_some : Sp := fun vs H Q _ => ∃ (a : Addr) (n m : Nat), vs = [.ref a, nV m] ∧ m ≤ 20 ∧ WellAt H a n ∧ n + 100 ≤ 1000000000 ∧
  ∀ (l : Addr) (r : List Int) H', H l = none → H' l = some (.lst (iVs r)) → r.length = m → r.Nodup → WellAt H' a (n + 30) → Off [a] H H' → Q (.ref l) H'
theorem Off.fresh {H H' : Hp} {a : Addr} (e : Off [a] H H') {p : Addr} (hap : a ≠ p) (h : H' p = none) : H p = none := by
  cases h2 : H p with
  | none => rfl
  | some o => rw [e _ _ (by simpa using Ne.symm hap) h2] at h; cases h
theorem ok__law_some (T : Txt K mg) : FnOk P w K mg base CX0 3 T.f__law_some T.fd__law_some ["_law_well_here", "_law_many"] sp__law_some := by
  have G__law_draw : FnOk P w K mg base CX0 1 T.f__law_draw T.fd__law_draw ["_law_well_here", "_law_many"] sp__law_draw := ok__law_draw T
  have G__law_one : FnOk P w K mg base CX0 2 T.f__law_one T.fd__law_one ["_law_well_here", "_law_some_here"] (sp__law_one K) := ok__law_one T
  refine T.F__law_some.ok sc__law_some (fun vs H Q E h => ?_) (fun cdv A outer s H vs Q E hr h => ?_)
  · obtain ⟨a, n, m, rfl, _⟩ := h
    rfl
  · obtain ⟨a, n, m, rfl, hm, hw, hn, q⟩ := h
    refine ⟨_, (pss_cons (ps_set (i := 2) sc__law_some.nd rfl (Or.inr rfl) (pe_call G__law_one (hr.mono (by omega)) (by rfl) T.m__law_one T.F__law_one.kp T.b__law_one .nil pass0 (pa_cons (pv 0) (pa_cons (pe_lst (pa_cons pe_int (pa_cons pe_int (pa_cons pe_int (pa_cons (pe_op op_pow pe_int pe_int) pa_nil))))) pa_nil))))
    (pss_one (ps_ret (pe_lc (own := [("_law_k", 3)]) (g := gName 3) (by rfl) sc__law_some.nd (pi_range1 (by rfl) T.n_range (pa_cons (pv 1) pa_nil)) (blkOk_by (N := N__law_some) (sc := defScope s__law_some) (by decide +kernel)) (fun _ _ _ _ _ => (pg_name (i := 3) sc__law_some.nd rfl (Or.inl rfl))) (fun _ _ _ _ _ => pts_nil) (fun _ _ _ _ _ => (pe_op op_add (pe_op op_mul (pv 2) (pe_op op_sub (pv 3) (pe_op op_fdiv (pv 1) pe_int))) (pe_call G__law_draw (hr.mono (by omega)) (by rfl) T.m__law_draw T.F__law_draw.kp T.b__law_draw .nil pass0 (pa_cons (pv 0) (pa_cons (pv 2) pa_nil))))))))), ?_⟩
    refine ⟨_, rfl, _, _, rfl, rfl, ⟨by decide, by decide, by decide⟩, big' (by simp), fun p hp => ⟨a, p, n, _, rfl, well_ne hw hp, upd_same, by simp, by simp, hw.same (Same.new hp), by omega, fun x H1 hx hw1 ho1 => ?_⟩⟩
    obtain ⟨b, rfl, hb1, hb2⟩ : ∃ b : Int, x = .int b ∧ 1 ≤ b ∧ b < 2 ^ 200 := by
      simp only [List.mem_cons, List.not_mem_nil, or_false] at hx
      rcases hx with rfl | rfl | rfl | rfl
      · exact ⟨1, rfl, by decide, by decide⟩
      · exact ⟨1, rfl, by decide, by decide⟩
      · exact ⟨7, rfl, by decide, by decide⟩
      · exact ⟨_, rfl, by decide, by decide⟩
    have ho1' : Off [a] H H1 := (Same.off (Same.new hp)).trans ho1
    refine ⟨_, rfl, m, rfl, by omega, by omega, fun D hD => ?_⟩
    have haD := well_ne hw1 hD
    refine lc_it walk_range (fun i H' => ∃ r : List Int, H' D = some (.lst (iVs r)) ∧ r.length = i ∧ Steps b m r ∧ WellAt H' a (n + 1 + i) ∧ Off [a] H H') ?_ (fun _ _ _ _ => True.intro) ?_ ?_
    · exact ⟨[], upd_same, rfl, fun k v e => by simp at e, (hw1.same (Same.new hD)), ho1'.trans (Same.off (Same.new hD))⟩
    · rintro i x H2 H3 hi ⟨r, hr1, hr2, hr3, hw2, ho2⟩ ⟨rfl, rfl⟩
      have hi' : i < m := by simpa using hi
      refine ⟨rfl, yesI ?_⟩
      refine ⟨_, rfl, _, rfl, _, rfl, _, _, rfl, rfl, ⟨by decide, by decide⟩, _, _, rfl, rfl, _, _, rfl, rfl, .inr ⟨by omega, by omega⟩, ?_⟩
      refine ⟨_, rfl, _, rfl, a, b, _, rfl, hb1, hb2, hw2, by omega, fun y H4 y0 y1 hw4 ho4 => ⟨_, _, rfl, rfl, ?_⟩⟩
      refine ⟨_, ho4 _ _ (by simpa using Ne.symm haD) hr1, big (by rw [iVs_len]; omega), r ++ [b * ((i : Int) - (m : Int) / 3) + y], ?_, by simp [hr2], ?_, (hw4.put haD).mono (by omega), ?_⟩
      · rw [upd_same]
        simp [iVs]
      · intro k v e
        by_cases hk : k < r.length
        · rw [List.getElem?_append_left hk] at e
          exact hr3 k v e
        · have hk2 := (List.getElem?_eq_some_iff.mp e).1
          have hk3 : k = r.length := by simp at hk2; omega
          subst hk3
          simp at e
          subst e
          rw [hr2]
          omega
      · refine (ho2.trans ho4).newer (Off.fresh ho1' haD hD)
    · rintro H2 ⟨r, hr1, hr2, hr3, hw2, ho2⟩
      have e : ((m : Int)).toNat = m := by simp
      rw [e] at hr2 hw2
      exact q D r H2 (Off.fresh ho1' haD hD) hr1 hr2 (hr3.nodup hb1) (hw2.mono (by omega)) ho2
end
end Fb
set_option Elab.async false
set_option linter.all false
set_option maxRecDepth 100000
set_option maxHeartbeats 4000000
/-! The law's bunches while they grow. -/
namespace Fb
open PySem PySem.Spec PyProof.Rows L2
structure GInv (ps : Prs Str) (B : List Bun) (done : List Str) : Prop where
  cols : ∀ (n : Nat) (b : Bun), B[n]? = some b → b.1 ∈ done
  up : ∀ (n : Nat) (b : Bun), B[n]? = some b → UpE b.2
  ne : ∀ (n : Nat) (b : Bun), B[n]? = some b → b.2 ≠ []
  le : ∀ (n : Nat) (b : Bun), B[n]? = some b → b.2.length ≤ 13
  parts : ∀ (n : Nat) (b : Bun), B[n]? = some b → ∀ e ∈ b.2, PartsOk ps B (some b.1) e.2 ∧ ∀ d ∈ e.2, d < n
def Has (B : List Bun) (c : Str) : Prop := ∃ (n : Nat) (b : Bun), B[n]? = some b ∧ b.1 = c
theorem PartsOk.app {ps : Prs Str} {B C : List Bun} {o : Option Str} {ds : List Nat} (h : PartsOk ps B o ds) : PartsOk ps (B ++ C) o ds := by
  refine ⟨h.1, fun i d k h1 h2 => ?_⟩
  obtain ⟨b, h3, h4⟩ := h.2 i d k h1 h2
  exact ⟨b, by rw [List.getElem?_append_left (List.getElem?_eq_some_iff.mp h3).1]; exact h3, h4⟩
theorem Has.app {B C : List Bun} {c : Str} (h : Has B c) : Has (B ++ C) c := by
  obtain ⟨n, b, h1, h2⟩ := h
  exact ⟨n, b, by rw [List.getElem?_append_left (List.getElem?_eq_some_iff.mp h1).1]; exact h1, h2⟩
theorem snoc_get {α : Type} {B : List α} {x b : α} {n : Nat} (h : (B ++ [x])[n]? = some b) : B[n]? = some b ∨ n = B.length ∧ b = x := by
  by_cases hk : n < B.length
  · rw [List.getElem?_append_left hk] at h; exact .inl h
  · have hk2 := (List.getElem?_eq_some_iff.mp h).1
    have hk3 : n = B.length := by simp at hk2; omega
    subst hk3
    simp at h
    exact .inr ⟨rfl, h.symm⟩
theorem GInv.snoc {ps : Prs Str} {B : List Bun} {done : List Str} (g : GInv ps B done) {c : Str} {es : List Ent} (hc : c ∈ done) (h1 : UpE es) (h2 : es ≠ []) (h3 : es.length ≤ 13) (h4 : ∀ e ∈ es, PartsOk ps B (some c) e.2) : GInv ps (B ++ [(c, es)]) done := by
  refine ⟨fun n b h => ?_, fun n b h => ?_, fun n b h => ?_, fun n b h => ?_, fun n b h e he => ?_⟩
  · rcases snoc_get h with h | ⟨_, rfl⟩
    · exact g.cols n b h
    · exact hc
  · rcases snoc_get h with h | ⟨_, rfl⟩
    · exact g.up n b h
    · exact h1
  · rcases snoc_get h with h | ⟨_, rfl⟩
    · exact g.ne n b h
    · exact h2
  · rcases snoc_get h with h | ⟨_, rfl⟩
    · exact g.le n b h
    · exact h3
  · rcases snoc_get h with h | ⟨rfl, rfl⟩
    · exact ⟨(g.parts n b h e he).1.app, (g.parts n b h e he).2⟩
    · refine ⟨(h4 e he).app, fun d hd => ?_⟩
      obtain ⟨k, b, _, hb, _⟩ := (h4 e he).mem hd
      exact (List.getElem?_eq_some_iff.mp hb).1
theorem GInv.mono {ps : Prs Str} {B : List Bun} {done done' : List Str} (g : GInv ps B done) (h : ∀ c ∈ done, c ∈ done') : GInv ps B done' :=
  ⟨fun n b hb => h _ (g.cols n b hb), g.up, g.ne, g.le, g.parts⟩
theorem GInv.good {ps : Prs Str} {B : List Bun} {done : List Str} (g : GInv ps B done) (gp : GoodP ps) (h : ∀ c ∈ done, c ∈ order ps) : GoodB ps B :=
  ⟨gp, fun n b hb => h _ (g.cols n b hb), g.up, g.ne, g.le, fun n b hb e he => (g.parts n b hb e he).1⟩
/-- the numbers of the bunches of a column -/
def isC (B : List Bun) (c : Str) (n : Nat) : Bool := match B[n]? with
  | some b => decide (b.1 = c)
  | none => false
def atc (B : List Bun) (c : Str) : List Nat := (List.range B.length).filter (isC B c)
theorem mem_atc {B : List Bun} {c : Str} {n : Nat} : n ∈ atc B c ↔ ∃ b, B[n]? = some b ∧ b.1 = c := by
  unfold atc isC
  rw [List.mem_filter, List.mem_range]
  constructor
  · rintro ⟨h1, h2⟩
    rw [List.getElem?_eq_getElem h1] at h2
    exact ⟨_, List.getElem?_eq_getElem h1, of_decide_eq_true h2⟩
  · rintro ⟨b, h1, h2⟩
    refine ⟨(List.getElem?_eq_some_iff.mp h1).1, ?_⟩
    rw [h1]
    exact decide_eq_true h2
theorem atc_ne {B : List Bun} {c : Str} (h : Has B c) : atc B c ≠ [] := by
  obtain ⟨n, b, h1, h2⟩ := h
  have : n ∈ atc B c := mem_atc.mpr ⟨b, h1, h2⟩
  intro e
  rw [e] at this
  cases this
theorem atc_len {B : List Bun} {c : Str} : (atc B c).length ≤ B.length := by
  unfold atc
  refine Nat.le_trans (List.length_filter_le _ _) ?_
  rw [List.length_range]
  exact Nat.le_refl _
theorem PartsOk.atc {ps : Prs Str} {B : List Bun} {o : Option Str} {ds : List Nat} (h1 : ds.length = (kidsOf ps o).length) (h : ∀ (i d : Nat) (k : Str), ds[i]? = some d → (kidsOf ps o)[i]? = some k → d ∈ Fb.atc B k) : PartsOk ps B o ds :=
  ⟨h1, fun i d k a b => mem_atc.mp (h i d k a b)⟩
theorem put_cut {W : List Addr} {H : Hp} {p : Addr} {o : HO} (h : p ∈ W) : cut W (upd H p o) = cut W H := by
  funext b
  unfold cut
  by_cases hb : b ∈ W
  · simp [hb]
  · have : b ≠ p := fun e => hb (by rw [e]; exact h)
    simp [hb, upd_ne this]
theorem fil_map {α β : Type} (p : α → Bool) (f : α → β) (d : β) : ∀ l : List α, ((List.range l.length).filter fun i => (l[i]?).elim false p).map (fun i => (l[i]?).elim d f) = (l.filter p).map f := by
  intro l
  have key : ∀ n, n ≤ l.length → ((List.range n).filter fun i => (l[i]?).elim false p).map (fun i => (l[i]?).elim d f) = ((l.take n).filter p).map f := by
    intro n
    induction n with
    | zero => intro _; rfl
    | succ n ih =>
      intro hn
      have hx : l[n]? = some l[n] := List.getElem?_eq_getElem (by omega)
      rw [List.range_succ, List.filter_append, List.map_append, ih (by omega), List.take_add_one, hx, List.filter_append, List.map_append]
      by_cases e : p l[n] = true
      · simp [hx, e]
      · simp [hx, e]
  have := key l.length (Nat.le_refl _)
  rw [List.take_length] at this
  exact this
/-- lb is new to H -/
theorem Off.drop {H H' : Hp} {a lb : Addr} (h : Off [a, lb] H H') (hn : H lb = none) : Off [a] H H' := fun b o nb e => by
  refine h b o (fun m => ?_) e
  simp only [List.mem_cons, List.not_mem_nil, or_false] at m nb
  rcases m with m | m
  · exact nb m
  · rw [m, hn] at e; cases e
theorem Same.cutW {W : List Addr} {H H' : Hp} (e : Same H H') : Same (cut W H) (cut W H') := (Same.off e).cut
theorem Off.two {H H' : Hp} {a lb : Addr} (h : Off [a] H H') : Off [a, lb] H H' := h.mono (by simp)
theorem kids_le {ps : Prs Str} {o : Option Str} : (kidsOf ps o).length ≤ ps.length := by
  unfold kidsOf
  rw [List.length_map]
  exact List.length_filter_le _ _
theorem cut_from {xs : List V} {k : Nat} : cutV xs (some (k : Int)) none = xs.drop k := by
  unfold cutV
  rw [HT.sIx_nat, HT.sIx_none]
  by_cases h : k ≤ xs.length
  · rw [Nat.min_eq_left h]
    exact List.take_of_length_le (by rw [List.length_drop]; exact Nat.le_refl _)
  · rw [Nat.min_eq_right (by omega), List.drop_eq_nil_of_le (Nat.le_refl _), List.drop_eq_nil_of_le (by omega)]
    simp
theorem cut_sub {W W' : List Addr} {H : Hp} (h : ∀ b, b ∈ W → b ∈ W') : Same (cut W' H) (cut W H) := fun b o e => by
  obtain ⟨h1, h2⟩ := cut_some.mp e
  exact cut_some.mpr ⟨fun m => h1 (h b m), h2⟩
theorem head_at {l : List Nat} (h : l ≠ []) : l[0]? = some (l.headD 0) ∧ l.headD 0 ∈ l := by
  cases l with
  | nil => exact absurd rfl h
  | cons x l => exact ⟨rfl, List.mem_cons_self⟩
/-- sorted, each once: rising -/
theorem sort_up {r s : List Int} (h : s.Perm r) (hs : s.Pairwise (· ≤ ·)) (nd : r.Nodup) : s.Pairwise (· < ·) := by
  have nd2 : s.Nodup := h.nodup_iff.mpr nd
  exact List.Pairwise.imp₂ (fun a b h1 h2 => by omega) hs nd2
end Fb
set_option Elab.async false
set_option linter.all false
set_option maxRecDepth 100000
set_option maxHeartbeats 4000000
/-! The law's great fold. -/
namespace Fb
open PySem PySem.Spec PyProof.Rows L2
section
variable {P : Program} {w : World} {K : PySem.W.Frag} {mg : Str → Option Value} {base : Heap}
def sp__law_great : Sp := fun vs H Q _ => ∃ (a l : Addr) (n : Nat) (ps : Prs Str), vs = [.ref a, .ref l] ∧ WellAt H a n ∧ n + 3000 ≤ 1000000000 ∧ PairsL H l ps ∧ l ≠ a ∧ GoodP ps ∧ ps ≠ [] ∧
  ∀ (r lb tt : Addr) (B : List Bun) (tops : List Nat) H', H' r = some (.tup [.ref lb, .ref tt]) → lb ≠ a → BunsL (cut [a] H') lb B → NT H' tt tops → GInv ps B (order ps) → PartsOk ps B none tops → B.length ≤ 16 → WellAt H' a (n + 3000) → Off [a] H H' → Q (.ref r) H'
theorem ok__law_great (T : Txt K mg) : FnOk P w K mg base CX0 12 T.f__law_great T.fd__law_great ["_law_well_here", "_law_pairs_here"] sp__law_great := by
  have G__law_draw : FnOk P w K mg base CX0 1 T.f__law_draw T.fd__law_draw ["_law_well_here", "_law_many"] sp__law_draw := ok__law_draw T
  have G__law_one : FnOk P w K mg base CX0 2 T.f__law_one T.fd__law_one ["_law_well_here", "_law_some_here"] (sp__law_one K) := ok__law_one T
  have G__law_some : FnOk P w K mg base CX0 3 T.f__law_some T.fd__law_some ["_law_well_here", "_law_many"] sp__law_some := ok__law_some T
  have G__law_beneath : FnOk P w K mg base CX0 10 T.f__law_beneath T.fd__law_beneath ["_law_pairs_here", "_law_column"] (sp__law_beneath 9) := ok__law_beneath T 9
  refine T.F__law_great.ok sc__law_great (fun vs H Q E h => ?_) (fun cdv A outer s H vs Q E hr h => ?_)
  · obtain ⟨a, l, n, ps, rfl, _⟩ := h
    rfl
  · obtain ⟨a, l, n, ps, rfl, hw, hn, ⟨lv, hl, hP⟩, hla, gp, hps, q⟩ := h
    refine ⟨_, (pss_cons (ps_set (i := 2) sc__law_great.nd rfl (Or.inl rfl) (pe_call G__law_beneath (hr.mono (by omega)) (by rfl) T.m__law_beneath T.F__law_beneath.kp T.b__law_beneath .nil pass0 (pa_cons (pv 1) (pa_cons pe_non pa_nil))))
    (pss_cons (ps_set (i := 3) sc__law_great.nd rfl (Or.inr rfl) (pe_lst pa_nil))
    (pss_cons (ps_for PassesOwn.never (by rfl) (pi_list (pe_revL (pv 2))) (pg_name (i := 4) sc__law_great.nd rfl (Or.inr rfl)) (pss_cons (ps_setLc (i := 5) (own := [("_law_name", 12), ("_law_over", 13)]) (by rfl) sc__law_great.nd rfl rfl (sw_true rfl rfl rfl (by decide +kernel)) (pi_list (pv 1)) (blkOk_by (N := N__law_great) (sc := defScope s__law_great) (by decide +kernel)) (fun _ _ _ _ _ => (pg_tupK (K := K) (n := 2) (by rfl) (pgs_cons (pg_name (i := 12) sc__law_great.nd rfl (Or.inl rfl)) (pgs_cons (pg_name (i := 13) sc__law_great.nd rfl (Or.inl rfl)) pgs_nil)))) (fun _ _ _ _ _ => (pts_one (pt_cmpR op_eq (pv 13) (pv 4) (nomark _)))) (fun _ _ _ _ _ => (pv 12)))
      (pss_cons (ps_setLc (i := 6) (own := [("_law_kid", 14)]) (g := gName 14) (by rfl) sc__law_great.nd rfl rfl (sw_true rfl rfl rfl (by decide +kernel)) (pi_list (pv 5)) (blkOk_by (N := N__law_great) (sc := defScope s__law_great) (by decide +kernel)) (fun _ _ _ _ _ => (pg_name (i := 14) sc__law_great.nd rfl (Or.inr rfl))) (fun _ _ _ _ _ => pts_nil) (fun _ _ _ _ _ => (pe_lc (own := [("_law_at", 15), ("_law_bunch", 16)]) (by rfl) sc__law_great.nd (pi_enumK (K := K) (by rfl) T.n_enumerate (pa_cons (pv 3) pa_nil)) (blkOk_by (N := N__law_great) (sc := { kind := ScopeKind.function, names := [(".0", NameKind.local), ("_law_kid", NameKind.cell), ("enumerate", NameKind.globalImplicit), ("_law_bunches", NameKind.cell)], isGenerator := false, isCoroutine := false }) (by decide +kernel)) (fun _ _ _ _ _ => (pg_tupK (K := K) (n := 2) (by rfl) (pgs_cons (pg_name (i := 15) sc__law_great.nd rfl (Or.inl rfl)) (pgs_cons (pg_name (i := 16) sc__law_great.nd rfl (Or.inl rfl)) pgs_nil)))) (fun _ _ _ _ _ => (pts_one (pt_cmpR op_eq (pe_ix (ix_tupK (K := K)) (pv 16) pe_int (fun _ _ => rfl)) (pv 14) (nomark _)))) (fun _ _ _ _ _ => (pv 15)))))
      (pss_one (ps_for PassesOwn.never (by rfl) (pi_range1 (by rfl) T.n_range (pa_cons (pe_op op_add pe_int (pe_call G__law_draw (hr.mono (by omega)) (by rfl) T.m__law_draw T.F__law_draw.kp T.b__law_draw .nil pass0 (pa_cons (pv 0) (pa_cons pe_int pa_nil)))) pa_nil)) (pg_name (i := 7) sc__law_great.nd rfl (Or.inl rfl)) (pss_cons (ps_set (i := 8) sc__law_great.nd rfl (Or.inl rfl) (pe_callB cr_sorted (by rfl) T.n_sorted (by decide +kernel) (pa_cons (pe_call G__law_some (hr.mono (by omega)) (by rfl) T.m__law_some T.F__law_some.kp T.b__law_some .nil pass0 (pa_cons (pv 0) (pa_cons (pe_op op_add pe_int (pe_call G__law_draw (hr.mono (by omega)) (by rfl) T.m__law_draw T.F__law_draw.kp T.b__law_draw .nil pass0 (pa_cons (pv 0) (pa_cons pe_int pa_nil)))) pa_nil))) pa_nil)))
        (pss_cons (ps_set (i := 9) sc__law_great.nd rfl (Or.inl rfl) (pe_lst pa_nil))
        (pss_cons (ps_for PassesOwn.never (by rfl) (pi_list (pe_slice sl_list (pv 8) (po_some (pv 7)) po_none)) (pg_name (i := 10) sc__law_great.nd rfl (Or.inl rfl)) (pss_one (ps_expr (pe_bm PySem.F.plainAttrs_list PySem.F.slot_list_append PySem.F.type_list_append mt_append (pv 9) (pa_cons (pe_tup (pa_cons (pv 10) (pa_cons (pe_callTy call_tuple_of (by rfl) T.n_tuple (by decide +kernel) (pa_cons (pe_lc (own := [("_law_numbers", 17)]) (g := gName 17) (by rfl) sc__law_great.nd (pi_list (pv 6)) (blkOk_by (N := N__law_great) (sc := defScope s__law_great) (by decide +kernel)) (fun _ _ _ _ _ => (pg_name (i := 17) sc__law_great.nd rfl (Or.inl rfl))) (fun _ _ _ _ _ => pts_nil) (fun _ _ _ _ _ => (pe_call G__law_one (hr.mono (by omega)) (by rfl) T.m__law_one T.F__law_one.kp T.b__law_one .nil pass0 (pa_cons (pv 0) (pa_cons (pv 17) pa_nil))))) pa_nil)) pa_nil))) pa_nil)))))
        (pss_one (ps_expr (pe_bm PySem.F.plainAttrs_list PySem.F.slot_list_append PySem.F.type_list_append mt_append (pv 3) (pa_cons (pe_tup (pa_cons (pv 4) (pa_cons (pv 9) pa_nil))) pa_nil))))))))))))
    (pss_cons (ps_setLc (i := 11) (own := [("_law_name", 12), ("_law_over", 13)]) (by rfl) sc__law_great.nd rfl rfl (sw_true rfl rfl rfl (by decide +kernel)) (pi_list (pv 1)) (blkOk_by (N := N__law_great) (sc := defScope s__law_great) (by decide +kernel)) (fun _ _ _ _ _ => (pg_tupK (K := K) (n := 2) (by rfl) (pgs_cons (pg_name (i := 12) sc__law_great.nd rfl (Or.inl rfl)) (pgs_cons (pg_name (i := 13) sc__law_great.nd rfl (Or.inl rfl)) pgs_nil)))) (fun _ _ _ _ _ => (pts_one (pt_cmpR op_isN (pv 13) pe_non (nomark _)))) (fun _ _ _ _ _ => (pv 12)))
    (pss_one (ps_ret (pe_tup (pa_cons (pv 3) (pa_cons (pe_callTy call_tuple_of (by rfl) T.n_tuple (by decide +kernel) (pa_cons (pe_lc (own := [("_law_top", 18)]) (g := gName 18) (by rfl) sc__law_great.nd (pi_list (pv 11)) (blkOk_by (N := N__law_great) (sc := defScope s__law_great) (by decide +kernel)) (fun _ _ _ _ _ => (pg_name (i := 18) sc__law_great.nd rfl (Or.inr rfl))) (fun _ _ _ _ _ => pts_nil) (fun _ _ _ _ _ => (pe_ix (ix_listK (K := K)) (pe_lc (own := [("_law_at", 15), ("_law_bunch", 16)]) (by rfl) sc__law_great.nd (pi_enumK (K := K) (by rfl) T.n_enumerate (pa_cons (pv 3) pa_nil)) (blkOk_by (N := N__law_great) (sc := { kind := ScopeKind.function, names := [(".0", NameKind.local), ("_law_top", NameKind.cell), ("enumerate", NameKind.globalImplicit), ("_law_bunches", NameKind.cell)], isGenerator := false, isCoroutine := false }) (by decide +kernel)) (fun _ _ _ _ _ => (pg_tupK (K := K) (n := 2) (by rfl) (pgs_cons (pg_name (i := 15) sc__law_great.nd rfl (Or.inl rfl)) (pgs_cons (pg_name (i := 16) sc__law_great.nd rfl (Or.inl rfl)) pgs_nil)))) (fun _ _ _ _ _ => (pts_one (pt_cmpR op_eq (pe_ix (ix_tupK (K := K)) (pv 16) pe_int (fun _ _ => rfl)) (pv 18) (nomark _)))) (fun _ _ _ _ _ => (pv 15))) pe_int (fun _ _ => rfl)))) pa_nil)) pa_nil))))))))), ?_⟩
    refine ⟨_, rfl, l, ps, none, rfl, ⟨lv, hl, hP⟩, gp, (fun c e => by cases e), Nat.le_refl 9, fun f H1 hf0 s1 hf1 => ?_⟩
    refine ⟨by decide, fun lb hlb => ?_⟩
    refine ⟨_, rfl, f, _, rfl, SqL.of (Same.new hlb _ _ hf1), fun rv hrv => ?_⟩
    have hw1 := hw.same s1
    have halb := well_ne hw1 hlb
    have s2 : Same H1 (upd (upd H1 lb (.lst [])) rv (.lst (sVs (order ps)).reverse)) := (Same.new hlb).trans (Same.new hrv)
    refine ⟨rv, rfl, ⟨_, SqL.of upd_same⟩, ?_⟩
    have hlbH : H lb = none := Same.fresh s1 hlb
    have hrva : rv ≠ a := Ne.symm (well_ne (hw1.same (Same.new hlb)) hrv)
    have hrvlb : rv ≠ lb := fun e => by rw [e, upd_same] at hrv; cases hrv
    have erv : (sVs (order ps)).reverse = sVs (order ps).reverse := by simp [sVs]
    have hrv1 : (upd (upd H1 lb (.lst [])) rv (.lst (sVs (order ps)).reverse)) rv = some (.lst (sVs (order ps).reverse)) := by rw [upd_same, erv]
    have hol := order_le gp
    have hllb : l ≠ lb := fun e => by rw [← e] at hlbH; rw [hl] at hlbH; cases hlbH
    have hwlb : lb ∉ [a] := by simpa using Ne.symm halb
    have hcut : ∀ {H2 H3 : Hp}, Off [a] H2 H3 → Same (cut [a, lb] H2) (cut [a, lb] H3) := fun o => (o.mono (by simp)).cut
    refine for_it (walk_list (K := K) (a := rv) (xs := sVs (order ps).reverse)) (fun i σ H' => ∃ (B : List Bun) (bv : List V) (v4 v5 v6 v7 v8 v9 v10 v11 v12 v13 v14 v15 v16 v17 v18 : Option V), σ = [some (.ref a), some (.ref l), some (.ref f), some (.ref lb), v4, v5, v6, v7, v8, v9, v10, v11, v12, v13, v14, v15, v16, v17, v18] ∧ H' rv = some (.lst (sVs (order ps).reverse)) ∧
      H' lb = some (.lst bv) ∧ Paired (BunV (cut [a, lb] H')) bv B ∧ GInv ps B ((order ps).reverse.take i) ∧ (∀ c ∈ (order ps).reverse.take i, Has B c) ∧ B.length ≤ 2 * i ∧ WellAt H' a (n + 300 * i) ∧ Off [a] H H') ?_ ?_ ?_ ?_
    · refine ⟨[], [], none, none, none, none, none, none, none, none, none, none, none, none, none, none, none, rfl, hrv1, Same.new hrv _ _ upd_same, .nil, ⟨fun n b e => by simp at e, fun n b e => by simp at e, fun n b e => by simp at e, fun n b e => by simp at e, fun n b e => by simp at e⟩, fun c hc => by simp at hc, Nat.zero_le _, hw1.same s2, Same.off (s1.trans s2)⟩
    · rintro i σ H' hi ⟨B, bv, v4, v5, v6, v7, v8, v9, v10, v11, v12, v13, v14, v15, v16, v17, v18, _, h1, _⟩
      exact SqL.of h1
    · rintro i x σ H3 H2 hi ⟨B, bv, v4, v5, v6, v7, v8, v9, v10, v11, v12, v13, v14, v15, v16, v17, v18, rfl, hr2, hb2, hP2, hG, hH, hBl, hw2, ho2⟩ ⟨rfl, hx⟩
      rw [sVs_get] at hx
      obtain ⟨c, hc, rfl⟩ := Option.map_eq_some_iff.mp hx
      have hcr : c ∈ (order ps).reverse := List.mem_of_getElem? hc
      have hco : c ∈ order ps := List.mem_reverse.mp hcr
      have hi8 : i < 8 := by
        have := (List.getElem?_eq_some_iff.mp hc).1
        rw [List.length_reverse] at this
        omega
      have hl2 : H2 l = some (.lst lv) := ho2 _ _ (by simpa using hla) hl
      -- the children's names
      refine ⟨_, rfl, l, rfl, ⟨lv, SqL.of hl2⟩, fun D hD => ?_⟩
      have hlv : lv.length = ps.length := Paired.length hP
      have hps8 := gp.le
      refine lc_fil (walk_list (K := K) (a := l) (xs := lv)) (fun i => (ps[i]?).elim false fun x => decide (x.2 = some c)) (fun i => (ps[i]?).elim .non fun x => V.str x.1) hD (by omega) (fun H' s => SqL.of (s _ _ hl2)) (fun j x H4 H5 hj s4 y => ?_) fun H4 s4 hD4 => ?_
      · obtain ⟨rfl, hx⟩ := y
        obtain ⟨pr, hpr, t, rfl, ht⟩ := Paired.ofL hP hx
        have hta : t ≠ a := fun e => by
          obtain ⟨x, y, z, h1, _⟩ := hw
          rw [← e, ht] at h1; cases h1
        refine ⟨Same.refl _, fun Q' F hq hf => ?_⟩
        refine ⟨t, _, rfl, SqT.of (s4 _ _ (ho2 _ _ (by simpa using hta) ht)), rfl, _, _, rfl, _, _, rfl, rfl, rfl, ?_⟩
        rw [hpr] at hq hf
        refine ⟨_, rfl, _, rfl, scal_opt pr.2 (some c), _, rfl, ?_⟩
        have e2 : decide (optV pr.2 = V.str c) = decide (pr.2 = some c) := optV_eq (a := pr.2) (b := some c)
        rw [e2]
        cases e : decide (pr.2 = some c) with
        | true => exact ⟨_, rfl, hq e _ (Same.refl _)⟩
        | false => exact hf e _ (Same.refl _)
      · have eD : H4 D = some (.lst (sVs (kidsOf ps (some c)))) := by
          rw [hD4, hlv, fil_map (fun x => decide (x.2 = some c)) (fun x : Str × Option Str => V.str x.1)]
          unfold kidsOf sVs
          rw [List.map_map]
          rfl
        -- the numbers of the children's bunches
        have hkl : (kidsOf ps (some c)).length ≤ 8 := Nat.le_trans kids_le hps8
        have hbl : bv.length = B.length := Paired.length hP2
        have hb4 := s4 _ _ hb2
        have hw4 := hw2.same s4
        refine ⟨_, rfl, D, rfl, ⟨_, SqL.of eD⟩, fun D2 hD2 => ?_⟩
        refine lc_rel (walk_list (K := K) (a := D) (xs := sVs (kidsOf ps (some c)))) (R := fun k v H' => ∃ q, v = .ref q ∧ q ≠ a ∧ q ≠ lb ∧ H' q = some (.lst (nVs (atc B ((kidsOf ps (some c)).getD k ""))))) ?_ hD2 (by rw [sVs_len]; omega) (fun H' s => SqL.of (s _ _ eD)) (fun k x H5 H6 acc hk s5 hacc y => ?_) fun us H5 s5 hus hul hur => ?_
        · rintro k v Ha Hb sab ⟨q, h1, h2, h3, h4⟩
          exact ⟨q, h1, h2, h3, sab _ _ h4⟩
        · obtain ⟨rfl, hx⟩ := y
          rw [sVs_get] at hx
          obtain ⟨kid, hkid, rfl⟩ := Option.map_eq_some_iff.mp hx
          have ekid : (kidsOf ps (some c)).getD k "" = kid := by rw [List.getD_eq_getElem?_getD, hkid]; rfl
          refine ⟨Same.refl _, fun Q' F hq => ⟨rfl, yesI ?_⟩⟩
          have hb5 := s5 _ _ hb4
          refine ⟨_, rfl, lb, _, rfl, SqL.of hb5, fun D3 hD3 => ?_⟩
          refine lc_fil (walk_enum (K := K) (a := lb) (xs := bv)) (isC B kid) nV hD3 (by omega) (fun H' s => SqL.of (s _ _ hb5)) (fun m x H7 H8 hm s7 y => ?_) fun H7 s7 hD7 => ?_
          · obtain ⟨t, y1, z, rfl, ht, rfl, hy, hz⟩ := y
            cases hy
            obtain ⟨b, hbm, qa, le, rfl, hqa, _⟩ := Paired.ofL hP2 hz
            obtain ⟨hqn, hqa⟩ := cut_some.mp hqa
            refine ⟨Same.new ht, fun Q' F hq hf => ⟨t, _, rfl, SqT.of upd_same, rfl, _, _, rfl, _, _, rfl, rfl, rfl, ?_⟩⟩
            refine ⟨_, rfl, qa, _, _, _, rfl, rfl, SqT.of (Same.new ht _ _ (s7 _ _ (s5 _ _ (s4 _ _ hqa)))), rfl, _, rfl, rfl, _, rfl, ?_⟩
            have e2 : decide (V.str b.1 = V.str kid) = isC B kid m := by
              unfold isC
              rw [hbm]
              simp
            rw [e2]
            cases e : isC B kid m with
            | true => exact ⟨_, rfl, hq e _ (Same.refl _)⟩
            | false => exact hf e _ (Same.refl _)
          · refine hq _ H7 s7 ⟨D3, rfl, Ne.symm (well_ne (hw4.same s5) hD3), (fun e => by rw [e, hb5] at hD3; cases hD3), ?_⟩
            refine cutD ?_ (fun e => by rw [e, hacc] at hD3; cases hD3)
            rw [hD7, ekid, hbl]
            rfl
        · -- one or two bunches
          have hw5 := hw4.same s5
          have s25 := s4.trans s5
          have hD2a : D2 ≠ a := Ne.symm (well_ne hw4 hD2)
          have hD2lb : D2 ≠ lb := fun e => by rw [e, hb4] at hD2; cases hD2
          refine ⟨_, rfl, a, 2, _, rfl, by decide, by decide, hw5, by omega, fun r H6 r0 r1 hw6 ho6 => ?_⟩
          refine ⟨_, _, rfl, rfl, _, rfl, by omega, by omega, ?_⟩
          have hb6 : H6 lb = some (.lst bv) := ho6 _ _ hwlb (s25 _ _ hb2)
          have hus6 : H6 D2 = some (.lst us) := ho6 _ _ (by simpa using hD2a) hus
          have hur6 : ∀ (k : Nat) (v : V), us[k]? = some v → ∃ q, v = .ref q ∧ q ≠ a ∧ q ≠ lb ∧ H6 q = some (.lst (nVs (atc B ((kidsOf ps (some c)).getD k "")))) := by
            intro k v e
            obtain ⟨q, h1, h2, h3, h4⟩ := hur k v e
            exact ⟨q, h1, h2, h3, ho6 _ _ (by simpa using h2) (cut_some.mp h4).2⟩
          have hP6 : Paired (BunV (cut [a, lb] H6)) bv B := Paired.mapP hP2 fun _ _ z => z.mono ((Same.cutW s25).trans (hcut ho6))
          have hr6 : H6 rv = some (.lst (sVs (order ps).reverse)) := ho6 _ _ (by simpa using hrva) (s25 _ _ hr2)
          have hoH6 : Off [a, lb] H H6 := (ho2.trans ((Same.off s25).trans ho6)).two
          have hG1 : GInv ps B ((order ps).reverse.take (i + 1)) := hG.mono fun x hx => by
            rw [List.take_add_one]
            exact List.mem_append_left _ hx
          refine for_it walk_range (fun k σ H' => ∃ (C : List Bun) (bv' : List V) (v7 v8 v9 v10 v11 v12 v13 v14 v15 v16 v17 v18 : Option V), σ = [some (.ref a), some (.ref l), some (.ref f), some (.ref lb), some (.str c), some (.ref D), some (.ref D2), v7, v8, v9, v10, v11, v12, v13, v14, v15, v16, v17, v18] ∧
            C.length = k ∧ H' lb = some (.lst bv') ∧ Paired (BunV (cut [a, lb] H')) bv' (B ++ C) ∧ GInv ps (B ++ C) ((order ps).reverse.take (i + 1)) ∧ (1 ≤ k → Has (B ++ C) c) ∧ WellAt H' a (n + 300 * i + 1 + 140 * k) ∧ Off [a, lb] H6 H') ?_ (fun _ _ _ _ _ => True.intro) ?_ ?_
          · refine ⟨[], bv, v7, v8, v9, v10, v11, v12, v13, v14, v15, v16, v17, v18, rfl, rfl, hb6, by simpa using hP6, (by rw [List.append_nil]; exact hG1), (fun h => absurd h (by decide)), by simpa using hw6, Off.refl⟩
          · rintro k x σ H8 H7 hk ⟨C, bv', v7, v8, v9, v10, v11, v12, v13, v14, v15, v16, v17, v18, rfl, hC, hb7, hP7, hG7, hH7, hw7, ho7⟩ ⟨rfl, rfl⟩
            have hk2 : k < 2 := by omega
            have hblC : bv'.length = B.length + k := by rw [Paired.length hP7, List.length_append, hC]
            refine ⟨_, rfl, _, rfl, a, 12, _, rfl, by decide, by decide, hw7, by omega, fun r2 H8 r20 r21 hw8 ho8 => ?_⟩
            obtain ⟨m, rfl⟩ : ∃ m : Nat, r2 = (m : Int) := ⟨r2.toNat, by omega⟩
            refine ⟨_, _, rfl, rfl, a, _, m + 2, (by show [V.ref a, V.int (2 + (m : Int))] = _; rw [show (2 + (m : Int)) = ((m + 2 : Nat) : Int) by omega]), by omega, hw8, by omega, fun sv r H9 hsv0 hsv9 hrl hrn hw9 ho9 => ?_⟩
            refine ⟨sv, r, rfl, SqL.of hsv9, by omega, fun s' sv2 hperm hsort hsv2 => ?_⟩
            have hs'l : s'.length = m + 2 := by rw [hperm.length_eq, hrl]
            have hs'u := sort_up hperm hsort hrn
            refine ⟨by decide, fun le hle => ?_⟩
            have s10 : Same H9 (upd (upd H9 sv2 (.lst (s'.map V.int))) le (.lst [])) := (Same.new hsv2).trans (Same.new hle)
            have o10 : Off [a] H7 (upd (upd H9 sv2 (.lst (s'.map V.int))) le (.lst [])) := (ho8.trans ho9).trans (Same.off s10)
            refine ⟨_, rfl, _, rfl, _, rfl, sv2, _, rfl, SqL.of (Same.new hle _ _ upd_same), fun sl hsl => ?_⟩
            have ecut : cutV (s'.map V.int) (some (0 + (k : Int))) none = iVs (s'.drop k) := by
              rw [Int.zero_add, cut_from]
              unfold iVs
              rw [List.map_drop]
            have hsl1 : (upd (upd (upd H9 sv2 (.lst (s'.map V.int))) le (.lst [])) sl (.lst (cutV (s'.map V.int) (some (0 + (k : Int))) none))) sl = some (.lst (iVs (s'.drop k))) := by rw [upd_same, ecut]
            have hle7 : H7 le = none := by
              refine Off.fresh (ho8.trans (ho9.trans (Same.off (Same.new hsv2)))) (well_ne (hw9.same (Same.new hsv2)) hle) hle
            have hlea : le ≠ a := Ne.symm (well_ne (hw9.same (Same.new hsv2)) hle)
            have hlelb : le ≠ lb := fun e => by rw [e, hb7] at hle7; cases hle7
            have hle12 : (upd (upd (upd H9 sv2 (.lst (s'.map V.int))) le (.lst [])) sl (.lst (cutV (s'.map V.int) (some (0 + (k : Int))) none))) le = some (.lst []) := Same.new hsl _ _ upd_same
            have hw12 := (hw9.same s10).same (Same.new hsl (o := .lst (cutV (s'.map V.int) (some (0 + (k : Int))) none)))
            have o12 := o10.trans (Same.off (Same.new hsl (o := .lst (cutV (s'.map V.int) (some (0 + (k : Int))) none))))
            generalize (upd (upd (upd H9 sv2 (.lst (s'.map V.int))) le (.lst [])) sl (.lst (cutV (s'.map V.int) (some (0 + (k : Int))) none))) = H12 at hsl1 hle12 hw12 o12 ⊢
            have hD27 : H7 D2 = some (.lst us) := ho7 _ _ (by simp [hD2a, hD2lb]) hus6
            have hur7 : ∀ (k : Nat) (v : V), us[k]? = some v → ∃ q, v = .ref q ∧ q ≠ a ∧ H7 q = some (.lst (nVs (atc B ((kidsOf ps (some c)).getD k "")))) := by
              intro k v e
              obtain ⟨q, h1, h2, h3, h4⟩ := hur6 k v e
              exact ⟨q, h1, h2, ho7 _ _ (by simp [h2, h3]) h4⟩
            have hsle : sl ≠ le := fun e => by
              rw [e, hle12] at hsl1
              injection hsl1 with hsl1
              injection hsl1 with hsl1
              have := congrArg List.length hsl1
              rw [iVs_len, List.length_drop] at this
              simp at this; omega
            have hsla : sl ≠ a := Ne.symm (well_ne (hw9.same s10) hsl)
            refine ⟨sl, rfl, ⟨_, SqL.of hsl1⟩, ?_⟩
            refine for_it (walk_list (K := K) (a := sl) (xs := iVs (s'.drop k))) (fun j σ H' => ∃ (es : List Ent) (ev : List V) (v10 v11 v12 v13 v14 v15 v16 v17 v18 : Option V), σ = [some (.ref a), some (.ref l), some (.ref f), some (.ref lb), some (.str c), some (.ref D), some (.ref D2), some (nV k), some (.ref sv2), some (.ref le), v10, v11, v12, v13, v14, v15, v16, v17, v18] ∧
              H' sl = some (.lst (iVs (s'.drop k))) ∧ H' le = some (.lst ev) ∧ Paired (EntV (cut [a, lb, le] H')) ev es ∧ es.map (·.1) = (s'.drop k).take j ∧ (∀ e ∈ es, PartsOk ps (B ++ C) (some c) e.2) ∧ WellAt H' a (n + 300 * i + 1 + 140 * k + 31 + 8 * j) ∧ Off [a] H7 H') ?_ ?_ ?_ ?_
            · exact ⟨[], [], v10, v11, v12, v13, v14, v15, v16, v17, v18, by simp, hsl1, hle12, .nil, rfl, (fun e he => by cases he), hw12.mono (by omega), o12⟩
            · rintro j σ H' hj ⟨es, ev, v10, v11, v12, v13, v14, v15, v16, v17, v18, _, h1, _⟩
              exact SqL.of h1
            · rintro j x σ H14 H13 hj ⟨es, ev, v10, v11, v12, v13, v14, v15, v16, v17, v18, rfl, hsl13, hle13, hP13, hes, hpo, hw13, o13⟩ ⟨rfl, hx⟩
              rw [iVs_get] at hx
              obtain ⟨v, hv, rfl⟩ := Option.map_eq_some_iff.mp hx
              have hj13 : j < 13 := by
                have := (List.getElem?_eq_some_iff.mp hv).1
                rw [List.length_drop] at this
                omega
              have hD213 : H13 D2 = some (.lst us) := o13 _ _ (by simpa using hD2a) hD27
              have hul8 : us.length ≤ 8 := by rw [hul, sVs_len]; exact hkl
              rw [sVs_len] at hul
              refine ⟨_, rfl, tyL hle13, _, rfl, _, rfl, D2, rfl, ⟨us, SqL.of hD213⟩, fun D4 hD4 => ?_⟩
              have hD4a : a ≠ D4 := well_ne hw13 hD4
              refine lc_it (walk_list (K := K) (a := D2) (xs := us)) (fun y H' => ∃ ds : List Nat, H' D4 = some (.lst (nVs ds)) ∧ ds.length = y ∧ (∀ (z d : Nat) (kid : Str), ds[z]? = some d → (kidsOf ps (some c))[z]? = some kid → d ∈ atc B kid) ∧ WellAt H' a (n + 300 * i + 1 + 140 * k + 31 + 8 * j + y) ∧ Off [a] H13 H') ?_ ?_ ?_ ?_
              · exact ⟨[], upd_same, rfl, (fun z d kid e => by simp at e), hw13.same (Same.new hD4), Same.off (Same.new hD4)⟩
              · rintro y H' hy ⟨ds, _, _, _, _, o⟩
                exact SqL.of (o _ _ (by simpa using hD2a) hD213)
              · rintro y x H16 H15 hy ⟨ds, hd1, hd2, hd3, hw15, o15⟩ ⟨rfl, hx⟩
                obtain ⟨q1, rfl, hq1a, hq1⟩ := hur7 y x hx
                have hyk : y < (kidsOf ps (some c)).length := by rw [← hul]; exact hy
                have ek : (kidsOf ps (some c))[y]? = some (kidsOf ps (some c))[y] := List.getElem?_eq_getElem hyk
                have ekd : (kidsOf ps (some c)).getD y "" = (kidsOf ps (some c))[y] := by rw [List.getD_eq_getElem?_getD, ek]; rfl
                rw [ekd] at hq1
                have hkc : (kidsOf ps (some c))[y] ∈ kidsOf ps (some c) := List.getElem_mem hyk
                have hHas : Has B (kidsOf ps (some c))[y] := hH _ (by
                  have hsp : (order ps).reverse = (order ps).reverse.take i ++ c :: (order ps).reverse.drop (i + 1) := by
                    have h1 := (List.getElem?_eq_some_iff.mp hc).1
                    have h2 := (List.getElem?_eq_some_iff.mp hc).2
                    rw [← h2, ← List.drop_eq_getElem_cons h1, List.take_append_drop]
                  have h3 := congrArg List.reverse hsp
                  rw [List.reverse_reverse, List.reverse_append, List.reverse_cons, List.append_assoc] at h3
                  have h4 := kid_behind gp (l1 := ((order ps).reverse.drop (i + 1)).reverse) (l2 := ((order ps).reverse.take i).reverse) (by exact h3) hkc
                  exact List.mem_reverse.mp h4)
                refine ⟨rfl, yesI ?_⟩
                refine ⟨_, rfl, _, rfl, a, q1, _, _, rfl, Ne.symm hq1a, o15 _ _ (by simpa using hq1a) (o13 _ _ (by simpa using hq1a) hq1), ?_, ?_, hw15, by omega, fun z H17 hz hw17 o17 => ?_⟩
                · intro e
                  exact atc_ne hHas (by simpa [nVs] using e)
                · rw [nVs_len]
                  have := atc_len (B := B) (c := (kidsOf ps (some c))[y])
                  omega
                obtain ⟨d, hd, rfl⟩ := List.mem_map.mp hz
                refine ⟨_, o17 _ _ (by simpa using Ne.symm hD4a) hd1, big (by rw [nVs_len]; omega), ds ++ [d], ?_, by simp [hd2], ?_, hw17.put hD4a, ?_⟩
                · rw [upd_same]
                  simp [nVs]
                · intro z d' kid e1 e2
                  rcases snoc_get e1 with e1 | ⟨rfl, rfl⟩
                  · exact hd3 z d' kid e1 e2
                  · rw [hd2, ek] at e2
                    cases e2
                    exact hd
                · exact (o15.trans o17).newer hD4
              · rintro H15 ⟨ds, hd1, hd2, hd3, hw15, o15⟩
                have hle15 : H15 le = some (.lst ev) := o15 _ _ (by simpa using hlea) hle13
                have hlb13 : H13 lb = some (.lst bv') := o13 _ _ hwlb hb7
                have hlb15 : H15 lb = some (.lst bv') := o15 _ _ hwlb hlb13
                have hkv : ds.length = (kidsOf ps (some c)).length := by rw [hd2, hul]
                refine ⟨D4, _, rfl, .inl ⟨SqL.of hd1, fun T1 hT1 => ⟨big' (by simp), fun T2 hT2 => ?_⟩⟩⟩
                have s17 : Same H15 (upd (upd H15 T1 (.tup (nVs ds))) T2 (.tup [.int v, .ref T1])) := (Same.new hT1).trans (Same.new hT2)
                have hT1le : T1 ≠ le := fun e => by rw [e, hle15] at hT1; cases hT1
                have hT1lb : T1 ≠ lb := fun e => by rw [e, hlb15] at hT1; cases hT1
                have hT1a : T1 ≠ a := Ne.symm (well_ne hw15 hT1)
                have hT2' : H15 T2 = none := Same.fresh (Same.new hT1) hT2
                have hT2le : T2 ≠ le := fun e => by rw [e, hle15] at hT2'; cases hT2'
                have hT2lb : T2 ≠ lb := fun e => by rw [e, hlb15] at hT2'; cases hT2'
                have hT2a : T2 ≠ a := Ne.symm (well_ne hw15 hT2')
                have hT1v : (upd (upd H15 T1 (.tup (nVs ds))) T2 (.tup [.int v, .ref T1])) T1 = some (.tup (nVs ds)) := Same.new hT2 _ _ upd_same
                have hT2v : (upd (upd H15 T1 (.tup (nVs ds))) T2 (.tup [.int v, .ref T1])) T2 = some (.tup [.int v, .ref T1]) := upd_same
                have hle17 := s17 _ _ hle15
                have hw17 := hw15.same s17
                have o17 : Off [a] H13 (upd (upd H15 T1 (.tup (nVs ds))) T2 (.tup [.int v, .ref T1])) := o15.trans (Same.off s17)
                generalize (upd (upd H15 T1 (.tup (nVs ds))) T2 (.tup [.int v, .ref T1])) = H17 at hT1v hT2v hle17 hw17 o17 ⊢
                have hel : es.length = j := by
                  have := congrArg List.length hes
                  rw [List.length_map, List.length_take] at this
                  have := (List.getElem?_eq_some_iff.mp hv).1
                  omega
                refine ⟨le, ev, _, rfl, rfl, hle17, big (by rw [Paired.length hP13]; omega), es ++ [(v, ds)], ev ++ [.ref T2], _, _, _, _, _, _, _, _, _, rfl, ?_, upd_same, ?_, ?_, ?_, ?_, ?_⟩
                · rw [upd_ne hsle]
                  exact o17 _ _ (by simpa using hsla) hsl13
                · rw [put_cut (by simp)]
                  refine Paired.snoc (Paired.mapP hP13 fun _ _ z => z.mono ((o17.mono (by simp)).cut)) ?_
                  exact ⟨T2, T1, rfl, cut_some.mpr ⟨by simp [hT2a, hT2lb, hT2le], hT2v⟩, cut_some.mpr ⟨by simp [hT1a, hT1lb, hT1le], hT1v⟩⟩
                · rw [List.map_append, hes, List.take_add_one, hv]
                  rfl
                · intro e he
                  rcases List.mem_append.mp he with he | he
                  · exact hpo e he
                  · rw [List.mem_singleton.mp he]
                    exact (PartsOk.atc hkv hd3).app
                · exact (hw17.put (Ne.symm hlea)).mono (by omega)
                · exact (o13.trans o17).newer hle7
            · rintro σ H13 ⟨es, ev, v10, v11, v12, v13, v14, v15, v16, v17, v18, rfl, hsl13, hle13, hP13, hes, hpo, hw13, o13⟩
              have hlb13 : H13 lb = some (.lst bv') := o13 _ _ hwlb hb7
              rw [iVs_len, List.take_length] at hes
              rw [iVs_len] at hw13
              have hel : es.length = m + 2 - k := by
                have := congrArg List.length hes
                rw [List.length_map, List.length_drop] at this
                omega
              have hdl : (s'.drop k).length ≤ 13 := by rw [List.length_drop]; omega
              refine ⟨_, rfl, tyL hlb13, _, rfl, _, rfl, big' (by simp), fun T3 hT3 => ?_⟩
              have s18 : Same H13 (upd H13 T3 (.tup [.str c, .ref le])) := Same.new hT3
              have hT3lb : T3 ≠ lb := fun e => by rw [e, hlb13] at hT3; cases hT3
              have hT3a : T3 ≠ a := Ne.symm (well_ne hw13 hT3)
              have hT3v : (upd H13 T3 (.tup [.str c, .ref le])) T3 = some (.tup [.str c, .ref le]) := upd_same
              have hlb18 := s18 _ _ hlb13
              have hle18 := s18 _ _ hle13
              have hw18 := hw13.same s18
              have o18 : Off [a] H7 (upd H13 T3 (.tup [.str c, .ref le])) := o13.trans (Same.off s18)
              have hP18 : Paired (EntV (cut [a, lb, le] (upd H13 T3 (.tup [.str c, .ref le])))) ev es := Paired.mapP hP13 fun _ _ z => z.mono (Same.cutW s18)
              generalize (upd H13 T3 (.tup [.str c, .ref le])) = H18 at hT3v hlb18 hle18 hw18 o18 hP18 ⊢
              have hupe : UpE es := by
                have h1 : (es.map (·.1)).Pairwise (· < ·) := by rw [hes]; exact hs'u.sublist (List.drop_sublist _ _)
                exact List.pairwise_map.mp h1
              have hcc : c ∈ (order ps).reverse.take (i + 1) := by
                rw [List.take_add_one, hc]
                exact List.mem_append_right _ (by simp)
              have gs := hG7.snoc (es := es) hcc hupe (fun e => by rw [e] at hel; simp at hel; omega) (by omega) hpo
              rw [List.append_assoc] at gs
              refine ⟨lb, bv', _, rfl, rfl, hlb18, big (by omega), C ++ [(c, es)], bv' ++ [.ref T3], _, _, _, _, _, _, _, _, _, _, _, _, rfl, by simp [hC], upd_same, ?_, gs, fun _ => ?_, ?_, ?_⟩
              · rw [put_cut (by simp), ← List.append_assoc]
                refine Paired.snoc (Paired.mapP hP7 fun _ _ z => z.mono (hcut o18)) ?_
                refine ⟨T3, le, rfl, cut_some.mpr ⟨by simp [hT3a, hT3lb], hT3v⟩, ev, cut_some.mpr ⟨by simp [hlea, hlelb], hle18⟩, Paired.mapP hP18 fun _ _ z => z.mono (cut_sub (by simp))⟩
              · rw [← List.append_assoc]
                exact ⟨(B ++ C).length, (c, es), by simp, rfl⟩
              · exact (hw18.put halb).mono (by omega)
              · exact (ho7.trans o18.two).trans (Off.put (by simp))
          · rintro σ H7 ⟨C, bv', v7, v8, v9, v10, v11, v12, v13, v14, v15, v16, v17, v18, rfl, hC, hb7, hP7, hG7, hH7, hw7, ho7⟩
            refine ⟨B ++ C, bv', _, _, _, v7, v8, v9, v10, v11, v12, v13, v14, v15, v16, v17, v18, rfl, ho7 _ _ (by simp [hrva, hrvlb]) hr6, hb7, hP7, hG7, ?_, ?_, hw7.mono ?_, (hoH6.trans ho7).drop hlbH⟩
            · intro d hd
              rw [List.take_add_one, List.mem_append] at hd
              rcases hd with hd | hd
              · exact (hH d hd).app
              · rw [hc] at hd
                have : d = c := by simpa using hd
                subst this
                exact hH7 (by omega)
            · rw [List.length_append, hC]; omega
            · omega
    · rintro σ H2 ⟨B, bv, v4, v5, v6, v7, v8, v9, v10, v11, v12, v13, v14, v15, v16, v17, v18, rfl, hr2, hb2, hP2, hG, hH, hBl, hw2, ho2⟩
      rw [sVs_len] at hG hH hBl hw2
      rw [List.take_length] at hG hH
      rw [List.length_reverse] at hBl hw2
      have hl2 : H2 l = some (.lst lv) := ho2 _ _ (by simpa using hla) hl
      refine ⟨_, rfl, l, rfl, ⟨lv, SqL.of hl2⟩, fun D hD => ?_⟩
      have hlv : lv.length = ps.length := Paired.length hP
      have hps8 := gp.le
      have hbl : bv.length = B.length := Paired.length hP2
      refine lc_fil (walk_list (K := K) (a := l) (xs := lv)) (fun i => (ps[i]?).elim false fun x => decide (x.2 = none)) (fun i => (ps[i]?).elim .non fun x => V.str x.1) hD (by omega) (fun H' s => SqL.of (s _ _ hl2)) (fun j x H4 H5 hj s4 y => ?_) fun H4 s4 hD4 => ?_
      · obtain ⟨rfl, hx⟩ := y
        obtain ⟨pr, hpr, t, rfl, ht⟩ := Paired.ofL hP hx
        have hta : t ≠ a := fun e => by
          obtain ⟨x, y, z, h1, _⟩ := hw
          rw [← e, ht] at h1; cases h1
        refine ⟨Same.refl _, fun Q' F hq hf => ?_⟩
        refine ⟨t, _, rfl, SqT.of (s4 _ _ (ho2 _ _ (by simpa using hta) ht)), rfl, _, _, rfl, _, _, rfl, rfl, rfl, ?_⟩
        rw [hpr] at hq hf
        refine ⟨_, rfl, rfl, _, rfl, ?_⟩
        have e2 : decide (optV pr.2 = V.non) = decide (pr.2 = none) := optV_eq (a := pr.2) (b := none)
        rw [e2]
        cases e : decide (pr.2 = none) with
        | true => exact ⟨_, rfl, hq e _ (Same.refl _)⟩
        | false => exact hf e _ (Same.refl _)
      · have eD : H4 D = some (.lst (sVs (kidsOf ps none))) := by
          rw [hD4, hlv, fil_map (fun x => decide (x.2 = none)) (fun x : Str × Option Str => V.str x.1)]
          unfold kidsOf sVs
          rw [List.map_map]
          rfl
        have hkl : (kidsOf ps none).length ≤ 8 := Nat.le_trans kids_le hps8
        have hb4 := s4 _ _ hb2
        have hw4 := hw2.same s4
        have hHk : ∀ t ∈ kidsOf ps none, Has B t := fun t ht => hH t (List.mem_reverse.mpr (top_order gp ht))
        refine ⟨_, rfl, _, rfl, D, rfl, ⟨_, SqL.of eD⟩, fun D2 hD2 => ?_⟩
        refine lc_map (walk_list (K := K) (a := D) (xs := sVs (kidsOf ps none))) (fun k => nV ((atc B ((kidsOf ps none).getD k "")).headD 0)) hD2 (by rw [sVs_len]; omega) (fun H' s => SqL.of (s _ _ eD)) (fun k x H5 H6 hk s5 y => ?_) fun H5 s5 hus => ?_
        · obtain ⟨rfl, hx⟩ := y
          rw [sVs_get] at hx
          obtain ⟨kid, hkid, rfl⟩ := Option.map_eq_some_iff.mp hx
          have ekid : (kidsOf ps none).getD k "" = kid := by rw [List.getD_eq_getElem?_getD, hkid]; rfl
          rw [ekid]
          refine ⟨Same.refl _, fun Q' F hq => ⟨rfl, yesI ?_⟩⟩
          have hb5 := s5 _ _ hb4
          refine ⟨_, rfl, lb, _, rfl, SqL.of hb5, fun D3 hD3 => ?_⟩
          refine lc_fil (walk_enum (K := K) (a := lb) (xs := bv)) (isC B kid) nV hD3 (by omega) (fun H' s => SqL.of (s _ _ hb5)) (fun m x H7 H8 hm s7 y => ?_) fun H7 s7 hD7 => ?_
          · obtain ⟨t, y1, z, rfl, ht, rfl, hy, hz⟩ := y
            cases hy
            obtain ⟨b, hbm, qa, le, rfl, hqa, _⟩ := Paired.ofL hP2 hz
            obtain ⟨hqn, hqa⟩ := cut_some.mp hqa
            refine ⟨Same.new ht, fun Q' F hq hf => ⟨t, _, rfl, SqT.of upd_same, rfl, _, _, rfl, _, _, rfl, rfl, rfl, ?_⟩⟩
            refine ⟨_, rfl, qa, _, _, _, rfl, rfl, SqT.of (Same.new ht _ _ (s7 _ _ (s5 _ _ (s4 _ _ hqa)))), rfl, _, rfl, rfl, _, rfl, ?_⟩
            have e2 : decide (V.str b.1 = V.str kid) = isC B kid m := by
              unfold isC
              rw [hbm]
              simp
            rw [e2]
            cases e : isC B kid m with
            | true => exact ⟨_, rfl, hq e _ (Same.refl _)⟩
            | false => exact hf e _ (Same.refl _)
          · have hh := head_at (atc_ne (hHk kid (List.mem_of_getElem? hkid)))
            have eD7 : H7 D3 = some (.lst (nVs (atc B kid))) := by
              rw [hD7, hbl]
              rfl
            exact ⟨D3, _, _, _, rfl, rfl, SqL.of eD7, at_nV (i := 0) hh.1, hq H7 s7⟩
        · have e5 : H5 D2 = some (.lst (nVs ((kidsOf ps none).map fun t => (atc B t).headD 0))) := by
            rw [hus, sVs_len, range_map_ext (h := fun t => nV ((atc B t).headD 0)) fun i x e => by rw [List.getD_eq_getElem?_getD, e]; rfl]
            unfold nVs
            rw [List.map_map]
            rfl
          have s25 := s4.trans s5
          refine ⟨D2, _, rfl, .inl ⟨SqL.of e5, fun tt htt => ⟨big' (by simp), fun r hr => ?_⟩⟩⟩
          have s9 : Same H2 (upd (upd H5 tt (.tup (nVs ((kidsOf ps none).map fun t => (atc B t).headD 0)))) r (.tup [.ref lb, .ref tt])) := s25.trans ((Same.new htt).trans (Same.new hr))
          refine q r lb tt B ((kidsOf ps none).map fun t => (atc B t).headD 0) _ upd_same (Ne.symm halb) ⟨bv, cut_some.mpr ⟨hwlb, s9 _ _ hb2⟩, ?_⟩ (Same.new hr _ _ upd_same) (hG.mono fun x hx => List.mem_reverse.mp hx) ?_ (by omega) ((hw2.same s9).mono (by omega)) (ho2.trans (Same.off s9))
          · exact Paired.mapP hP2 fun _ _ z => z.mono ((Same.cutW s9).trans (cut_sub (by simp)))
          · refine PartsOk.atc (by simp) fun i d k h1 h2 => ?_
            rw [List.getElem?_map, h2] at h1
            cases h1
            exact (head_at (atc_ne (hHk k (List.mem_of_getElem? h2)))).2
end
end Fb
set_option Elab.async false
set_option linter.all false
set_option maxRecDepth 100000
set_option maxHeartbeats 4000000
/-! The law's counts. -/
namespace Fb
open PySem PySem.Spec PyProof.Rows L2
theorem bun_sum (R : Nat → Rows) : ∀ es : List Ent, ((bunRows R es).length : Int) = (es.map fun e => ((prodN (fun d => (R d).length) e.2 : Nat) : Int)).sum
  | [] => rfl
  | e :: es => by
    rw [bun_cons, List.length_append, len_ent, List.map_cons, List.sum_cons, ← bun_sum R es, len_prod]
    omega
theorem cnt_sum {ps : Prs Str} {B : List Bun} (g : GoodB ps B) {n : Nat} {b : Bun} (hb : B[n]? = some b) : (b.2.map fun e => ((prodN (cnt B) e.2 : Nat) : Int)).sum = ((cnt B n : Nat) : Int) := by
  unfold cnt
  rw [RR_eq g hb, bun_sum]
/-- all counts -/
def cnts (B : List Bun) : List Nat := (List.range B.length).map (cnt B)
theorem cnts_len {B : List Bun} : (cnts B).length = B.length := by unfold cnts; simp
theorem cnts_at {B : List Bun} {n : Nat} (h : n < B.length) : (cnts B).getD n 0 = cnt B n := by
  unfold cnts
  rw [List.getD_eq_getElem?_getD, List.getElem?_map, List.getElem?_range h]
  rfl
theorem cnts_get {B : List Bun} {n : Nat} (h : n < B.length) : (cnts B)[n]? = some (cnt B n) := by
  unfold cnts
  rw [List.getElem?_map, List.getElem?_range h]
  rfl
theorem prodN_ext {c c' : Nat → Nat} {ds : List Nat} (h : ∀ d ∈ ds, c d = c' d) : prodN c ds = prodN c' ds := by
  induction ds with
  | nil => rfl
  | cons d ds ih => rw [prodN_cons, prodN_cons, h d List.mem_cons_self, ih fun x hx => h x (List.mem_cons_of_mem _ hx)]
theorem pow60 {n : Nat} (h : n ≤ 815730721) : n < 2 ^ 60 := Nat.lt_of_le_of_lt h (by decide)
section
variable {P : Program} {w : World} {K : PySem.W.Frag} {mg : Str → Option Value} {base : Heap}
def sp__law_counts : Sp := fun vs H Q _ => ∃ (l : Addr) (ps : Prs Str) (B : List Bun), vs = [.ref l] ∧ BunsL H l B ∧ GInv ps B (order ps) ∧ GoodP ps ∧ B.length ≤ 1000 ∧ BackL H Q (nVs (cnts B))
theorem ok__law_counts (T : Txt K mg) : FnOk P w K mg base CX0 2 T.f__law_counts T.fd__law_counts ["_law_bunches"] sp__law_counts := by
  have G__law_product : FnOk P w K mg base CX0 1 T.f__law_product T.fd__law_product ["_law_numbers", "_law_parts"] sp_product_at := ok__law_product T
  refine T.F__law_counts.ok sc__law_counts (fun vs H Q E h => ?_) (fun cdv A outer s H vs Q E hr h => ?_)
  · obtain ⟨l, ps, B, rfl, _⟩ := h
    rfl
  · obtain ⟨l, ps, B, rfl, ⟨bv, hl, hP⟩, gi, gp, hz, q⟩ := h
    have g : GoodB ps B := gi.good gp fun _ h => h
    refine ⟨_, (pss_cons (ps_set (i := 1) sc__law_counts.nd rfl (Or.inr rfl) (pe_lst pa_nil))
    (pss_cons (ps_for PassesOwn.never (by rfl) (pi_list (pv 0)) (pg_tup (by rfl) (pgs_cons (pg_name (i := 2) sc__law_counts.nd rfl (Or.inl rfl)) (pgs_cons (pg_name (i := 3) sc__law_counts.nd rfl (Or.inl rfl)) pgs_nil))) (pss_one (ps_expr (pe_bm PySem.F.plainAttrs_list PySem.F.slot_list_append PySem.F.type_list_append mt_append (pv 1) (pa_cons (pe_callB (cr_sum (by rfl)) (by rfl) T.n_sum (by decide +kernel) (pa_cons (pe_lc (own := [("_law_value", 4), ("_law_parts", 5)]) (by rfl) sc__law_counts.nd (pi_list (pv 3)) (blkOk_by (N := N__law_counts) (sc := defScope s__law_counts) (by decide +kernel)) (fun _ _ _ _ _ => (pg_tupK (K := K) (n := 2) (by rfl) (pgs_cons (pg_name (i := 4) sc__law_counts.nd rfl (Or.inl rfl)) (pgs_cons (pg_name (i := 5) sc__law_counts.nd rfl (Or.inl rfl)) pgs_nil)))) (fun _ _ _ _ _ => pts_nil) (fun _ _ _ _ _ => (pe_call G__law_product (hr.mono (by omega)) (by rfl) T.m__law_product T.F__law_product.kp T.b__law_product .nil pass0 (pa_cons (pv 1) (pa_cons (pv 5) pa_nil))))) pa_nil)) pa_nil)))))
    (pss_one (ps_ret (pv 1))))), ?_⟩
    refine ⟨by decide, fun lf hlf => ⟨_, rfl, l, rfl, ⟨bv, SqL.of (Same.new hlf _ _ hl)⟩, ?_⟩⟩
    have hllf : l ≠ lf := fun e => by rw [← e, hl] at hlf; cases hlf
    refine for_it (walk_list (K := K) (a := l) (xs := bv)) (fun i σ H' => ∃ v2 v3 v4 v5 : Option V, σ = [some (.ref l), some (.ref lf), v2, v3, v4, v5] ∧ H' lf = some (.lst (nVs ((List.range i).map (cnt B)))) ∧ Same H H') ?_ ?_ ?_ ?_
    · exact ⟨none, none, none, none, rfl, upd_same, Same.new hlf⟩
    · rintro i σ H' hi ⟨v2, v3, v4, v5, _, _, s⟩
      exact SqL.of (s _ _ hl)
    · rintro i x σ H3 H2 hi ⟨v2, v3, v4, v5, rfl, hf2, s2⟩ ⟨rfl, hx⟩
      obtain ⟨b, hb, t, le, rfl, ht, ev, hle, hE⟩ := Paired.ofL hP hx
      have hiB : i < B.length := (List.getElem?_eq_some_iff.mp hb).1
      refine ⟨t, _, rfl, SqT.of (s2 _ _ ht), rfl, _, _, rfl, _, _, rfl, rfl, ?_⟩
      have hel := Paired.length hE
      have hel2 := g.le i b hb
      refine ⟨_, rfl, tyL hf2, _, rfl, le, rfl, ⟨ev, SqL.of (s2 _ _ hle)⟩, fun D hD => ?_⟩
      refine lc_map (walk_list (K := K) (a := le) (xs := ev)) (fun k => nV ((b.2[k]?).elim 0 fun e => prodN (cnt B) e.2)) hD (by omega) (fun H' s => SqL.of (s _ _ (s2 _ _ hle))) (fun k x H4 H5 hk s4 y => ?_) fun H4 s4 hD4 => ?_
      · obtain ⟨rfl, hx⟩ := y
        obtain ⟨e, he, a1, b1, rfl, h1, h2⟩ := Paired.ofL hE hx
        refine ⟨Same.refl _, fun Q' F hq => ⟨a1, _, rfl, SqT.of (s4 _ _ (s2 _ _ h1)), rfl, _, _, rfl, _, _, rfl, rfl, rfl, yesI ?_⟩⟩
        refine ⟨_, rfl, _, rfl, lf, b1, _, e.2, rfl, s4 _ _ hf2, s4 _ _ (s2 _ _ h2), fun p hp => ?_, ?_⟩
        · have hpi := (gi.parts i b hb e (List.mem_of_getElem? he)).2 p hp
          rw [List.length_map, List.length_range]
          refine ⟨hpi, ?_⟩
          have e1 : ((List.range i).map (cnt B)).getD p 0 = cnt B p := by
            rw [List.getD_eq_getElem?_getD, List.getElem?_map, List.getElem?_range hpi]; rfl
          rw [e1]
          exact pow60 (cnt_le g (List.getElem?_eq_getElem (show p < B.length by omega))).2
        · have := hq H5 (Same.refl _)
          rw [he] at this
          have e2 : prodN (fun p => ((List.range i).map (cnt B)).getD p 0) e.2 = prodN (cnt B) e.2 := prodN_ext fun p hp => by
            have hpi := (gi.parts i b hb e (List.mem_of_getElem? he)).2 p hp
            rw [List.getD_eq_getElem?_getD, List.getElem?_map, List.getElem?_range hpi]; rfl
          rw [e2]
          exact this
      · have e4 : H4 D = some (.lst ((b.2.map fun e => ((prodN (cnt B) e.2 : Nat) : Int)).map V.int)) := by
          rw [hD4, hel, range_map_ext (l := b.2) (h := fun e => nV (prodN (cnt B) e.2)) fun i x e => by rw [e]; rfl, List.map_map]
          rfl
        refine ⟨D, _, rfl, SqL.of e4, ?_⟩
        rw [cnt_sum g hb]
        refine ⟨lf, _, _, rfl, rfl, s4 _ _ hf2, big (by rw [nVs_len]; simp; omega), _, _, _, _, rfl, ?_, ?_⟩
        · rw [upd_same, List.range_succ, List.map_append]
          simp [nVs]
        · intro u o e
          rw [upd_ne (fun z => by rw [z, hlf] at e; cases e)]
          exact s4 _ _ (s2 _ _ e)
    · rintro σ H2 ⟨v2, v3, v4, v5, rfl, hf2, s2⟩
      rw [Paired.length hP] at hf2
      exact ⟨_, rfl, q lf H2 hlf s2 hf2⟩
end
end Fb
set_option Elab.async false
set_option linter.all false
set_option maxRecDepth 100000
set_option maxHeartbeats 4000000
/-! The law's number of a row, and a drawn row. -/
namespace Fb
open PySem PySem.Spec PyProof.Rows L2
theorem filter_pre {pre post : List Ent} {e : Ent} (h : UpE (pre ++ e :: post)) : (pre ++ e :: post).filter (fun x => decide (x.1 < e.1)) = pre := by
  obtain ⟨_, h2, h3⟩ := List.pairwise_append.mp h
  obtain ⟨h4, _⟩ := List.pairwise_cons.mp h2
  rw [List.filter_append, List.filter_cons]
  have e1 : pre.filter (fun x => decide (x.1 < e.1)) = pre := List.filter_eq_self.mpr fun x hx => decide_eq_true (h3 x hx e List.mem_cons_self)
  have e2 : post.filter (fun x => decide (x.1 < e.1)) = [] := List.filter_eq_nil_iff.mpr fun x hx => by
    have := h4 x hx
    simp; omega
  rw [e1, e2]
  simp
theorem split_at {α : Type} {l : List α} {i : Nat} {x : α} (h : l[i]? = some x) : l = l.take i ++ x :: l.drop (i + 1) := by
  have h1 := (List.getElem?_eq_some_iff.mp h).1
  have h2 := (List.getElem?_eq_some_iff.mp h).2
  rw [← h2, ← List.drop_eq_getElem_cons h1, List.take_append_drop]
theorem drop_at {α : Type} {l : List α} {i : Nat} {x : α} (h : l[i]? = some x) : l.drop i = x :: l.drop (i + 1) := by
  have h1 := (List.getElem?_eq_some_iff.mp h).1
  have h2 := (List.getElem?_eq_some_iff.mp h).2
  rw [← h2, ← List.drop_eq_getElem_cons h1]
theorem take_at {α : Type} {l : List α} {i : Nat} {x : α} (h : l[i]? = some x) : l.take (i + 1) = l.take i ++ [x] := by
  rw [List.take_add_one, h]
  rfl
/-- values of entries, as a dict -/
def entK (es : List Ent) (bs : List Addr) : List (Key × V) := (es.zip bs).map fun p => (Sum.inl p.1.1, V.ref p.2)
theorem merge_get : ∀ {es : List Ent} {bs : List Addr} {e : Ent} {i : Nat} {b : Addr} (acc : List (Key × V)), (es.map (·.1)).Nodup → es[i]? = some e → bs[i]? = some b → (∀ k ∈ es.map (·.1), valV acc (Sum.inl k) = none ∨ True) → valV (mergeK acc (entK es bs)) (Sum.inl e.1) = some (V.ref b) := by
  have later : ∀ (es : List Ent) (bs : List Addr) (acc : List (Key × V)) (v : Int), v ∉ es.map (·.1) → valV (mergeK acc (entK es bs)) (Sum.inl v) = valV acc (Sum.inl v) := by
    intro es
    induction es with
    | nil => intro bs acc v _; rfl
    | cons e es ih =>
      intro bs acc v hv
      cases bs with
      | nil => rfl
      | cons b bs =>
        rw [List.map_cons, List.mem_cons] at hv
        show valV (mergeK (putK acc (Sum.inl e.1) (V.ref b)) (entK es bs)) (Sum.inl v) = _
        rw [ih bs _ v (fun h => hv (.inr h)), valV_put]
        exact if_neg fun z => hv (.inl (by injection z))
  intro es
  induction es with
  | nil => intro bs e i b acc _ h; simp at h
  | cons x es ih =>
    intro bs e i b acc nd h1 h2 _
    obtain ⟨n1, n2⟩ := List.nodup_cons.mp nd
    cases bs with
    | nil => simp at h2
    | cons y bs =>
      cases i with
      | zero =>
        simp at h1 h2
        subst h1 h2
        show valV (mergeK (putK acc (Sum.inl x.1) (V.ref y)) (entK es bs)) (Sum.inl x.1) = _
        rw [later es bs _ _ n1, valV_put]
        exact if_pos rfl
      | succ i =>
        simp at h1 h2
        exact ih _ n2 h1 h2 fun _ _ => .inr trivial
theorem ents_addr {H : Hp} {ev : List V} {es : List Ent} (h : Paired (EntV H) ev es) : ∃ (as bs : List Addr), ev = as.map V.ref ∧ bs.length = es.length ∧ Paired (fun (p : Addr) (kv : Key × V) => H p = some (.tup [kV kv.1, kv.2])) as (entK es bs) ∧ ∀ (i : Nat) (e : Ent) (b : Addr), es[i]? = some e → bs[i]? = some b → NT H b e.2 := by
  induction h with
  | nil => exact ⟨[], [], rfl, rfl, .nil, fun i e b h => by simp at h⟩
  | @cons v e vs es hv t ih =>
    obtain ⟨as, bs, h1, h2, h3, h4⟩ := ih
    obtain ⟨a, b, rfl, h5, h6⟩ := hv
    refine ⟨a :: as, b :: bs, by rw [h1]; rfl, by simp [h2], .cons h5 h3, fun i f c hf hc => ?_⟩
    cases i with
    | zero => simp at hf hc; subst hf hc; exact h6
    | succ i => simp at hf hc; exact h4 i f c hf hc
theorem upe_nodup {es : List Ent} (h : UpE es) : (es.map (·.1)).Nodup := List.pairwise_map.mpr (List.Pairwise.imp (fun hab e => by omega) h)
theorem at0 {α : Type} {x : α} {xs : List α} : atI (x :: xs) 0 = some x := atI_nat (j := 0) rfl
theorem cut_one {xs : List V} : cutV xs (some (1 : Int)) none = xs.drop 1 := cut_from (k := 1)
theorem not_all {x : V} {xs : List V} (z : HT.sIx (x :: xs).length 0 (some (1 : Int)) = 0) : False := by
  have e : HT.sIx (x :: xs).length 0 (some ((1 : Nat) : Int)) = min 1 (x :: xs).length := HT.sIx_nat _ _ 1
  have e2 : HT.sIx (x :: xs).length 0 (some (1 : Int)) = min 1 (x :: xs).length := e
  rw [e2, List.length_cons] at z
  omega
/-- one part more -/
theorem bl_step {ps : Prs Str} {B : List Bun} (g : GoodB ps B) {o : Option Str} {ds : List Nat} (hp : PartsOk ps B o ds) {i d : Nat} {b : Bun} (hd : ds[i]? = some d) (hb : B[d]? = some b) {e : Ent} {ei : Nat} (he : b.2[ei]? = some e) {c p : List Int}
    (hc : c ∈ prod ((ds.take i).map (RR B))) :
    bl (prod ((ds.take (i + 1)).map (RR B))) (c ++ e.1 :: p) = bl (prod ((ds.take i).map (RR B))) c * cnt B d + (bunRows (RR B) (b.2.take ei)).length + bl (prod (e.2.map (RR B))) p ∧
    ((c ++ e.1 :: p) ∈ prod ((ds.take (i + 1)).map (RR B)) ↔ p ∈ prod (e.2.map (RR B))) := by
  have q := up_prod (f := RR B) (g := wb ps B) (ps := ds.take i) fun x hx => by
    obtain ⟨k, b', hk, hb', rfl⟩ := hp.mem (List.mem_of_mem_take hx)
    exact RR_good g 8 x b' hb' (rank_le g hb').2
  have hsp := split_at he
  have hup := g.up d b hb
  rw [hsp] at hup
  have h2 := bun_at (R := RR B) hup p
  rw [← hsp, ← RR_eq g hb] at h2
  rw [take_at hd, List.map_append, List.map_cons, List.map_nil, prod_snoc]
  constructor
  · rw [bl_cross q.1 q.2 (q.2 c hc), if_pos hc, h2.1]
    show _ * cnt B d + _ = _
    omega
  · rw [mem_cross_app q.2 (q.2 c hc), h2.2]
    exact ⟨fun h => h.2, fun h => ⟨hc, h⟩⟩
section
variable {P : Program} {w : World} {K : PySem.W.Frag} {mg : Str → Option Value} {base : Heap}
def sp__law_number (n : Nat) : Sp := fun vs H Q _ => ∃ (lb lm lp lr : Addr) (ps : Prs Str) (B : List Bun) (o : Option Str) (ds : List Nat) (r rest : List Int), vs = [.ref lb, .ref lm, .ref lp, .ref lr] ∧ BunsL H lb B ∧ GoodB ps B ∧ (∀ c, o = some c → ∃ q, (c, q) ∈ ps) ∧ rkO ps o ≤ n ∧ PartsOk ps B o ds ∧
  NL H lm (cnts B) ∧ NT H lp ds ∧ H lr = some (.tup (iVs (r ++ rest))) ∧ r ∈ prod (ds.map (RR B)) ∧ ∀ t lr' H', Same H H' → H' t = some (.tup [nV (bl (prod (ds.map (RR B))) r), .ref lr']) → H' lr' = some (.tup (iVs rest)) → Q (.ref t) H'
theorem ok__law_number (T : Txt K mg) : ∀ n : Nat, FnOk P w K mg base CX0 (n + 2) T.f__law_number T.fd__law_number ["_law_bunches", "_law_many", "_law_parts", "_law_row"] (sp__law_number n) := by
  have G__law_product : FnOk P w K mg base CX0 1 T.f__law_product T.fd__law_product ["_law_numbers", "_law_parts"] sp_product_at := ok__law_product T
  intro n
  induction n with
  | zero =>
    refine T.F__law_number.ok sc__law_number (fun vs H Q E h => ?_) (fun cdv A outer s H vs Q E hr h => ?_)
    · obtain ⟨_, _, _, _, _, _, _, _, _, _, rfl, _⟩ := h
      rfl
    · obtain ⟨lb, lm, lp, lr, ps, B, o, ds, r, rest, rfl, hB, g, ho, hk, _⟩ := h
      have := rk_pos g.gp ho
      omega
  | succ n ih =>
    have G__law_number := ih
    refine T.F__law_number.ok sc__law_number (fun vs H Q E h => ?_) (fun cdv A outer s H vs Q E hr h => ?_)
    · obtain ⟨_, _, _, _, _, _, _, _, _, _, rfl, _⟩ := h
      rfl
    · obtain ⟨lb, lm, lp, lr, ps, B, o, ds, r, rest, rfl, hB, g, ho, hk, hp, hm, hlp, hlr, hrm, q⟩ := h
      have hu := hu_of hr
      refine ⟨_, (pss_cons (ps_set (i := 4) sc__law_number.nd rfl (Or.inl rfl) pe_int)
    (pss_cons (ps_for PassesOwn.never (by rfl) (pi_tup (pv 2)) (pg_name (i := 5) sc__law_number.nd rfl (Or.inl rfl)) (pss_cons (ps_set (i := 6) sc__law_number.nd rfl (Or.inl rfl) pe_int)
      (pss_cons (ps_for PassesOwn.never (by rfl) (pi_list (pe_ix ix_tup (pe_ix ix_list (pv 0) (pv 5) (fun _ _ => rfl)) pe_int (fun _ _ => rfl))) (pg_tup (by rfl) (pgs_cons (pg_name (i := 7) sc__law_number.nd rfl (Or.inl rfl)) (pgs_cons (pg_name (i := 8) sc__law_number.nd rfl (Or.inl rfl)) pgs_nil))) (pss_one (ps_if (pt_cmpR op_lt (pv 7) (pe_ix ix_tup (pv 3) pe_int (fun _ _ => rfl)) (nomark _)) (pss_one (ps_set (i := 6) sc__law_number.nd rfl (Or.inl rfl) (pe_op op_add (pv 6) (pe_call G__law_product (hr.mono (by omega)) (by rfl) T.m__law_product T.F__law_product.kp T.b__law_product .nil pass0 (pa_cons (pv 1) (pa_cons (pv 8) pa_nil)))))) pss_nil)))
      (pss_cons (ps_set (i := 9) sc__law_number.nd rfl (Or.inl rfl) (pe_dget hu (pe_callTy (call_dictP (by rfl)) (by rfl) T.n_dict (by decide +kernel) (pa_cons (pe_ix ix_tup (pe_ix ix_list (pv 0) (pv 5) (fun _ _ => rfl)) pe_int (fun _ _ => rfl)) pa_nil)) (pe_ix ix_tup (pv 3) pe_int (fun _ _ => rfl)) (fun _ _ => rfl)))
      (pss_cons (ps_asg (pe_call G__law_number (hr.mono (by omega)) (by rfl) T.m__law_number T.F__law_number.kp T.b__law_number .nil pass0 (pa_cons (pv 0) (pa_cons (pv 1) (pa_cons (pv 9) (pa_cons (pe_slice sl_tupA (pv 3) (po_some pe_int) po_none) pa_nil))))) (pg_tup (by rfl) (pgs_cons (pg_name (i := 10) sc__law_number.nd rfl (Or.inl rfl)) (pgs_cons (pg_name (i := 3) sc__law_number.nd rfl (Or.inl rfl)) pgs_nil))))
      (pss_one (ps_set (i := 4) sc__law_number.nd rfl (Or.inl rfl) (pe_op op_add (pe_op op_add (pe_op op_mul (pv 4) (pe_ix ix_list (pv 1) (pv 5) (fun _ _ => rfl))) (pv 6)) (pv 10)))))))))
    (pss_one (ps_ret (pe_tup (pa_cons (pv 4) (pa_cons (pv 3) pa_nil))))))), ?_⟩
      refine ⟨_, rfl, lp, rfl, ⟨_, SqT.of hlp⟩, ?_⟩
      refine for_it (walk_tup (K := K) (a := lp) (xs := nVs ds)) (fun i σ H' => ∃ (c rem : List Int) (lr' : Addr) (v5 v6 v7 v8 v9 v10 : Option V), σ = [some (.ref lb), some (.ref lm), some (.ref lp), some (.ref lr'), some (nV (bl (prod ((ds.take i).map (RR B))) c)), v5, v6, v7, v8, v9, v10] ∧ Same H H' ∧ H' lr' = some (.tup (iVs (rem ++ rest))) ∧
        r = c ++ rem ∧ c ∈ prod ((ds.take i).map (RR B)) ∧ rem ∈ prod ((ds.drop i).map (RR B))) ?_ ?_ ?_ ?_
      · refine ⟨[], r, lr, none, none, none, none, none, none, rfl, Same.refl _, hlr, rfl, by simp [prod], hrm⟩
      · rintro i σ H' hi ⟨c, rem, lr', v5, v6, v7, v8, v9, v10, _, s, _⟩
        exact SqT.of (s _ _ hlp)
      · rintro i x σ H3 H2 hi ⟨c, rem, lr', v5, v6, v7, v8, v9, v10, rfl, s2, hlr2, hrc, hc, hrem⟩ ⟨rfl, hx⟩
        obtain ⟨d, hd, rfl⟩ := nVs_some hx
        obtain ⟨k, b, hk1, hb, hk2⟩ := hp.at hd
        have hdB : d < B.length := (List.getElem?_eq_some_iff.mp hb).1
        obtain ⟨bv, ta, le, hbv, hbl, hat, hta, ev, hle, hE⟩ := hB.at hb
        rw [drop_at hd, List.map_cons] at hrem
        obtain ⟨p, hpd, rem', hrem', rfl⟩ := mem_cross.mp hrem
        have hpd2 := hpd
        rw [RR_eq g hb] at hpd2
        obtain ⟨e, he, hpe⟩ := mem_bun.mp hpd2
        obtain ⟨p', rfl, hp'⟩ := ent_head hpe
        obtain ⟨ei, hei⟩ := List.mem_iff_getElem?.mp he
        have hsp := split_at hei
        have hup := g.up d b hb
        have hel := Paired.length hE
        have hel2 := g.le d b hb
        have hlr3 : H2 lr' = some (.tup (.int e.1 :: iVs (p' ++ (rem' ++ rest)))) := by rw [hlr2]; simp [iVs]
        have hpo := g.parts d b hb e he
        refine ⟨_, rfl, _, rfl, lb, _, _, _, rfl, rfl, SqL.of (s2 _ _ hbv), atI_nat hat, ta, _, _, _, rfl, rfl, SqT.of (s2 _ _ hta), rfl, le, rfl, ⟨ev, SqL.of (s2 _ _ hle)⟩, ?_⟩
        refine for_it (walk_list (K := K) (a := le) (xs := ev)) (fun j σ H' => ∃ (v7 v8 v9 v10 : Option V), σ = [some (.ref lb), some (.ref lm), some (.ref lp), some (.ref lr'), some (nV (bl (prod ((ds.take i).map (RR B))) c)), some (nV d), some (nV (bunRows (RR B) ((b.2.take j).filter fun x => decide (x.1 < e.1))).length), v7, v8, v9, v10] ∧ Same H2 H') ?_ ?_ ?_ ?_
        · exact ⟨v7, v8, v9, v10, rfl, Same.refl _⟩
        · rintro j σ H' hj ⟨v7, v8, v9, v10, _, s⟩
          exact SqL.of (s _ _ (s2 _ _ hle))
        · rintro j x σ H5 H4 hj ⟨v7, v8, v9, v10, rfl, s4⟩ ⟨rfl, hx⟩
          obtain ⟨f, hf, a1, b1, rfl, h1, h2⟩ := Paired.ofL hE hx
          have s24 := s2.trans s4
          refine ⟨a1, _, rfl, SqT.of (s24 _ _ h1), rfl, _, _, rfl, _, _, rfl, rfl, ?_⟩
          refine ⟨_, rfl, _, rfl, lr', _, _, _, rfl, rfl, SqT.of (s4 _ _ hlr3), at0, _, _, rfl, rfl, _, rfl, ?_⟩
          by_cases hlt : f.1 < e.1
          · refine iteD hlt ?_
            have hfo := g.parts d b hb f (List.mem_of_getElem? hf)
            refine ⟨_, rfl, _, rfl, _, rfl, lm, b1, cnts B, f.2, rfl, s24 _ _ hm, s24 _ _ h2, fun p hp => ?_, _, _, rfl, rfl, some (.int f.1), some (.ref b1), v9, v10, ?_, s4⟩
            · obtain ⟨_, b', _, hb', _⟩ := hfo.mem hp
              have hpi := (List.getElem?_eq_some_iff.mp hb').1
              rw [cnts_len, cnts_at hpi]
              exact ⟨hpi, pow60 (cnt_le g hb').2⟩
            · rw [take_at hf, List.filter_append, bun_app, List.length_append]
              have e1 : [f].filter (fun x => decide (x.1 < e.1)) = [f] := by simp [hlt]
              rw [e1]
              have e2 : (bunRows (RR B) [f]).length = prodN (fun p => (cnts B).getD p 0) f.2 := by
                rw [bun_cons, bun_nil, List.append_nil, len_ent, prod_len]
                refine prodN_ext fun p hp => ?_
                obtain ⟨_, b', _, hb', _⟩ := hfo.mem hp
                exact (cnts_at (List.getElem?_eq_some_iff.mp hb').1).symm
              rw [e2]
              simp
          · refine iteDn hlt ?_
            refine ⟨some (.int f.1), some (.ref b1), v9, v10, ?_, s4⟩
            rw [take_at hf, List.filter_append]
            have e1 : [f].filter (fun x => decide (x.1 < e.1)) = [] := by simp [hlt]
            rw [e1, List.append_nil]
            rfl
        · rintro σ H4 ⟨v7, v8, v9, v10, rfl, s4⟩
          have s24 := s2.trans s4
          rw [hel, List.take_length]
          have efl : b.2.filter (fun x => decide (x.1 < e.1)) = b.2.take ei := by
            have : UpE (b.2.take ei ++ e :: b.2.drop (ei + 1)) := by rw [← hsp]; exact hup
            have := filter_pre this
            rw [← hsp] at this
            exact this
          rw [efl]
          obtain ⟨as, bs, hev, hbsl, hpa, hbs⟩ := ents_addr hE
          have heiB : ei < bs.length := by rw [hbsl]; exact (List.getElem?_eq_some_iff.mp hei).1
          have hbi : bs[ei]? = some bs[ei] := List.getElem?_eq_getElem heiB
          have hlr4 := s4 _ _ hlr3
          refine ⟨_, rfl, _, rfl, lb, _, _, _, rfl, rfl, SqL.of (s24 _ _ hbv), atI_nat hat, ta, _, _, _, rfl, rfl, SqT.of (s24 _ _ hta), rfl, le, as, entK b.2 bs, rfl, SqL.of (by rw [← hev]; exact s24 _ _ hle), Paired.mapP hpa fun _ _ z => SqT.of (s24 _ _ z), fun D hD => ?_⟩
          have s5 : Same H4 (upd H4 D (.dK (mergeK [] (entK b.2 bs)))) := Same.new hD
          refine ⟨_, rfl, lr', _, _, _, rfl, rfl, SqT.of (s5 _ _ hlr4), at0, D, V.ref bs[ei], rfl, ?_, ?_⟩
          · have := DGet.k (H := upd H4 D (.dK (mergeK [] (entK b.2 bs)))) (a := D) (k := Sum.inl e.1) upd_same
            rw [merge_get [] (upe_nodup hup) hei hbi fun _ _ => .inr trivial] at this
            exact this
          have s25 := s24.trans s5
          generalize (upd H4 D (.dK (mergeK [] (entK b.2 bs)))) = H5 at s5 s25 ⊢
          have hr1 : rkO ps (some b.1) ≤ n := by
            rw [← hk2] at hk1
            have := rk_kid g.gp (mem_kids.mp (List.mem_of_getElem? hk1))
            omega
          refine ⟨_, rfl, _, rfl, _, rfl, _, rfl, _, rfl, lr', _, rfl, SqT.of (s5 _ _ hlr4), (fun z => (not_all z.1).elim), fun _ p1 hp1 => ?_⟩
          have s6 : Same H5 (upd H5 p1 (.tup (cutV (V.int e.1 :: iVs (p' ++ (rem' ++ rest))) (some (1 : Int)) none))) := Same.new hp1
          have s26 := s25.trans s6
          refine ⟨lb, lm, bs[ei], p1, ps, B, some b.1, e.2, p', rem' ++ rest, rfl, hB.mono s26, g, (fun c hc => by cases hc; exact order_names (g.col d b hb)), hr1, hpo, s26 _ _ hm, s26 _ _ (hbs ei e _ hei hbi), (by rw [upd_same, cut_one]; rfl), hp', fun t lr2 H7 s7 ht hlr7 => ?_⟩
          have s27 := s26.trans s7
          refine ⟨t, _, rfl, SqT.of ht, rfl, _, _, rfl, _, _, rfl, rfl, ?_⟩
          refine ⟨_, rfl, _, rfl, _, rfl, lm, _, _, _, rfl, rfl, SqL.of (s27 _ _ hm), at_nV (cnts_get hdB), _, _, rfl, rfl, cmul_r ?_, _, rfl, _, _, rfl, rfl, _, rfl, _, _, rfl, rfl, ?_⟩
          · have := (cnt_le g hb).2
            omega
          have hst := bl_step g hp hd hb hei (p := p') hc
          have hn : ((bl (prod ((ds.take i).map (RR B))) c : Nat) : Int) * ((cnt B d : Nat) : Int) + ((bunRows (RR B) (b.2.take ei)).length : Int) + ((bl (prod (e.2.map (RR B))) p' : Nat) : Int) = ((bl (prod ((ds.take (i + 1)).map (RR B))) (c ++ e.1 :: p') : Nat) : Int) := by
            rw [hst.1]
            simp only [Int.natCast_add, Int.natCast_mul]
          refine ⟨c ++ e.1 :: p', rem', lr2, some (nV d), some (nV (bunRows (RR B) (b.2.take ei)).length), v7, v8, some (.ref bs[ei]), some (nV (bl (prod (e.2.map (RR B))) p')), ?_, s27, hlr7, ?_, hst.2.mpr hp', hrem'⟩
          · show _ = [_, _, _, _, some (V.int ((bl _ _ : Nat) : Int)), _, _, _, _, _, _]
            rw [← hn]
            rfl
          · rw [hrc]; simp
      · rintro σ H2 ⟨c, rem, lr', v5, v6, v7, v8, v9, v10, rfl, s2, hlr2, hrc, hc, hrem⟩
        rw [nVs_len] at hrem hc
        rw [List.drop_length] at hrem
        rw [nVs_len, List.take_length] 
        rw [List.take_length] at hc
        have er : rem = [] := by simpa [prod] using hrem
        subst er
        rw [List.append_nil] at hrc
        subst hrc
        refine ⟨_, rfl, _, rfl, big' (by simp), fun t ht => q t lr' _ (s2.trans (Same.new ht)) upd_same (Same.new ht _ _ hlr2)⟩
end
end Fb
set_option Elab.async false
set_option linter.all false
set_option maxRecDepth 100000
set_option maxHeartbeats 4000000
/-! + and slices of tuples, told alike in all cases. -/
namespace Fb
open PySem PySem.Spec PyProof.Rows L2
def rCatB : R2 := fun x y H Q => ∃ a b xs ys, x = .ref a ∧ y = .ref b ∧ H a = some (.tup xs) ∧ H b = some (.tup ys) ∧ xs.length + ys.length ≤ sizeLine ∧ ∀ r H', Same H H' → H' r = some (.tup (xs ++ ys)) → Q (.ref r) H'
theorem op_catB {X : Cx} : OpR X (binaryOp .Add) rCatB := by
  intro pins s σ H x y v u Q I rx ry h
  obtain ⟨a, b, xs, ys, rfl, rfl, ha, hb, hz, q⟩ := h
  refine op_catA pins s σ H _ _ v u Q I rx ry ⟨a, b, xs, ys, rfl, rfl, SqT.of ha, SqT.of hb, hz, fun e => ?_, fun _ e => ?_, fun _ _ p hp => q p _ (Same.new hp) upd_same⟩
  · subst e
    exact q b H (Same.refl _) hb
  · subst e
    exact q a H (Same.refl _) (by rw [List.append_nil]; exact ha)
def rSlB' : V → Option Int → Option Int → Hp → VK → Prop := fun x lo hi H Q => ∃ a xs, x = .ref a ∧ H a = some (.tup xs) ∧ ∀ r H', Same H H' → H' r = some (.tup (cutV xs lo hi)) → Q (.ref r) H'
theorem sl_tupB {X : Cx} : SlR X rSlB' := by
  intro pins s σ H x v vl vu lo hi sl Q I rx hs pl pu h
  obtain ⟨a, xs, rfl, ha, q⟩ := h
  refine sl_tupA pins s σ H _ v vl vu lo hi sl Q I rx hs pl pu ⟨a, xs, rfl, SqT.of ha, fun z => q a H (Same.refl _) ?_, fun _ p hp => q p _ (Same.new hp) upd_same⟩
  rw [ha]
  unfold cutV
  rw [z.1, z.2]
  simp
end Fb
set_option Elab.async false
set_option linter.all false
set_option maxRecDepth 100000
set_option maxHeartbeats 4000000
/-! The law's drawn row. -/
namespace Fb
open PySem PySem.Spec PyProof.Rows L2
section
variable {P : Program} {w : World} {K : PySem.W.Frag} {mg : Str → Option Value} {base : Heap}
def sp__law_some_row (n : Nat) : Sp := fun vs H Q _ => ∃ (a lb lp : Addr) (ps : Prs Str) (B : List Bun) (o : Option Str) (ds : List Nat) (m : Nat), vs = [.ref a, .ref lb, .ref lp] ∧ WellAt H a m ∧ m + wids ps o ≤ 1000000000 ∧ BunsL (cut [a] H) lb B ∧ GoodB ps B ∧ (∀ c, o = some c → ∃ q, (c, q) ∈ ps) ∧ rkO ps o ≤ n ∧ PartsOk ps B o ds ∧
  NT H lp ds ∧ ∀ t r H', r ∈ prod (ds.map (RR B)) → H' t = some (.tup (iVs r)) → WellAt H' a (m + wids ps o) → Off [a] H H' → Q (.ref t) H'
theorem tup_ne {H : Hp} {a b : Addr} {n : Nat} {xs : List V} (h : WellAt H a n) (hb : H b = some (.tup xs)) : b ≠ a := fun e => by
  obtain ⟨x, y, z, h1, _⟩ := h
  rw [← e, hb] at h1; cases h1
theorem ok__law_some_row (T : Txt K mg) : ∀ n : Nat, FnOk P w K mg base CX0 (n + 3) T.f__law_some_row T.fd__law_some_row ["_law_well_here", "_law_bunches", "_law_parts"] (sp__law_some_row n) := by
  have G__law_one : FnOk P w K mg base CX0 2 T.f__law_one T.fd__law_one ["_law_well_here", "_law_some_here"] (sp__law_one K) := ok__law_one T
  intro n
  induction n with
  | zero =>
    refine T.F__law_some_row.ok sc__law_some_row (fun vs H Q E h => ?_) (fun cdv A outer s H vs Q E hr h => ?_)
    · obtain ⟨_, _, _, _, _, _, _, _, rfl, _⟩ := h
      rfl
    · obtain ⟨a, lb, lp, ps, B, o, ds, m, rfl, hw, hm, hB, g, ho, hk, _⟩ := h
      have := rk_pos g.gp ho
      omega
  | succ n ih =>
    have G__law_some_row := ih
    refine T.F__law_some_row.ok sc__law_some_row (fun vs H Q E h => ?_) (fun cdv A outer s H vs Q E hr h => ?_)
    · obtain ⟨_, _, _, _, _, _, _, _, rfl, _⟩ := h
      rfl
    · obtain ⟨a, lb, lp, ps, B, o, ds, m, rfl, hw, hm, hB, g, ho, hk, hp, hlp, q⟩ := h
      refine ⟨_, (pss_cons (ps_set (i := 3) sc__law_some_row.nd rfl (Or.inl rfl) (pe_tup pa_nil))
    (pss_cons (ps_for PassesOwn.never (by rfl) (pi_tup (pv 2)) (pg_name (i := 4) sc__law_some_row.nd rfl (Or.inl rfl)) (pss_cons (ps_asg (pe_call G__law_one (hr.mono (by omega)) (by rfl) T.m__law_one T.F__law_one.kp T.b__law_one .nil pass0 (pa_cons (pv 0) (pa_cons (pe_ix ix_tup (pe_ix ix_list (pv 1) (pv 4) (fun _ _ => rfl)) pe_int (fun _ _ => rfl)) pa_nil))) (pg_tup (by rfl) (pgs_cons (pg_name (i := 5) sc__law_some_row.nd rfl (Or.inl rfl)) (pgs_cons (pg_name (i := 6) sc__law_some_row.nd rfl (Or.inl rfl)) pgs_nil))))
      (pss_one (ps_set (i := 3) sc__law_some_row.nd rfl (Or.inl rfl) (pe_op op_catB (pe_op op_catB (pv 3) (pe_tup (pa_cons (pv 5) pa_nil))) (pe_call G__law_some_row (hr.mono (by omega)) (by rfl) T.m__law_some_row T.F__law_some_row.kp T.b__law_some_row .nil pass0 (pa_cons (pv 0) (pa_cons (pv 1) (pa_cons (pv 6) pa_nil)))))))))
    (pss_one (ps_ret (pv 3))))), ?_⟩
      have hlpa := tup_ne hw hlp
      refine ⟨by decide, fun t0 ht0 => ⟨_, rfl, lp, rfl, ⟨_, SqT.of (Same.new ht0 _ _ hlp)⟩, ?_⟩⟩
      refine for_it (walk_tup (K := K) (a := lp) (xs := nVs ds)) (fun i σ H' => ∃ (c : List Int) (t : Addr) (v4 v5 v6 : Option V), σ = [some (.ref a), some (.ref lb), some (.ref lp), some (.ref t), v4, v5, v6] ∧ H' t = some (.tup (iVs c)) ∧ c ∈ prod ((ds.take i).map (RR B)) ∧
        WellAt H' a (m + ((ds.take i).map (wb ps B)).sum) ∧ Off [a] H H') ?_ ?_ ?_ ?_
      · exact ⟨[], t0, none, none, none, rfl, upd_same, by simp [prod], hw.same (Same.new ht0), Same.off (Same.new ht0)⟩
      · rintro i σ H' hi ⟨c, t, v4, v5, v6, _, _, _, _, o⟩
        exact SqT.of (o _ _ (by simpa using hlpa) hlp)
      · rintro i x σ H3 H2 hi ⟨c, t, v4, v5, v6, rfl, ht, hc, hw2, o2⟩ ⟨rfl, hx⟩
        obtain ⟨d, hd, rfl⟩ := nVs_some hx
        obtain ⟨k, b, hk1, hb, hk2⟩ := hp.at hd
        have hB2 := hB.mono o2.cut
        obtain ⟨bv, ta, le, hbv, hbl, hat, hta, ev, hle, hE⟩ := hB2.at hb
        obtain ⟨n1, hbv⟩ := cut_some.mp hbv
        obtain ⟨n2, hta⟩ := cut_some.mp hta
        obtain ⟨n3, hle⟩ := cut_some.mp hle
        have hel := Paired.length hE
        have hel2 := g.le d b hb
        have hsum : ((ds.take (i + 1)).map (wb ps B)).sum = ((ds.take i).map (wb ps B)).sum + (wids ps (some b.1) + 1) := by
          rw [take_at hd, List.map_append, List.sum_append]
          have : wb ps B d = wids ps (some b.1) + 1 := by rw [wb_eq hb, wid_eq g.gp (order_names (g.col d b hb))]
          simp [this]
        have hle1 : ((ds.take (i + 1)).map (wb ps B)).sum ≤ wids ps o := by
          rw [← hp.sum]
          have := congrArg (fun l => (l.map (wb ps B)).sum) (List.take_append_drop (i + 1) ds)
          simp only [List.map_append, List.sum_append] at this
          omega
        refine ⟨_, rfl, _, rfl, _, rfl, lb, _, _, _, rfl, rfl, SqL.of hbv, atI_nat hat, ta, _, _, _, rfl, rfl, SqT.of hta, rfl, ?_⟩
        refine ⟨a, le, _, ev, rfl, (fun e => n3 (by simp [e])), hle, fun e => ?_, by omega, hw2, by omega, fun x H4 hx hw4 o4 => ?_⟩
        · rw [e] at hel
          exact g.ne d b hb (List.length_eq_zero_iff.mp hel.symm)
        obtain ⟨e, he, t1, b1, rfl, h1, h2⟩ := Paired.memL hE hx
        have h1 := (cut_some.mp (o4.cut _ _ h1)).2
        have h2c := o4.cut _ _ h2
        have h2 := (cut_some.mp h2c).2
        refine ⟨t1, _, rfl, SqT.of h1, rfl, _, _, rfl, _, _, rfl, rfl, ?_⟩
        have ht4 : H4 t = some (.tup (iVs c)) := o4 _ _ (by simpa using tup_ne hw2 ht) ht
        have hpo := g.parts d b hb e he
        have hr1 : rkO ps (some b.1) ≤ n := by
          rw [← hk2] at hk1
          have := rk_kid g.gp (mem_kids.mp (List.mem_of_getElem? hk1))
          omega
        have hcl : c.length ≤ 8 := by
          have q2 := up_prod (f := RR B) (g := wb ps B) (ps := ds.take i) fun x hx => by
            obtain ⟨k, b', hk, hb', rfl⟩ := hp.mem (List.mem_of_mem_take hx)
            exact RR_good g 8 x b' hb' (rank_le g hb').2
          have h3 := q2.2 c hc
          have h4 := wids_le g.gp ho
          omega
        refine ⟨_, rfl, _, rfl, big' (by simp), fun t2 ht2 => ?_⟩
        have s5 : Same H4 (upd H4 t2 (.tup [.int e.1])) := Same.new ht2
        refine ⟨t, t2, _, _, rfl, rfl, s5 _ _ ht4, upd_same, big' (by rw [iVs_len]; simp; omega), fun t3 H6 s6 ht3 => ?_⟩
        have s46 := s5.trans s6
        have hw6 := hw4.same s46
        refine ⟨_, rfl, _, rfl, _, rfl, a, lb, b1, ps, B, some b.1, e.2, _, rfl, hw6, by omega, hB2.mono (Same.trans o4.cut (Same.cutW s46)), g, (fun c hc => by cases hc; exact order_names (g.col d b hb)), hr1, hpo, s46 _ _ h2, fun t4 r H7 hr7 ht7 hw7 o7 => ?_⟩
        have ht37 : H7 t3 = some (.tup (iVs c ++ [.int e.1])) := o7 _ _ (by simpa using tup_ne hw6 ht3) ht3
        have hrl : r.length ≤ 8 := by
          have q2 := (prod_good g hpo).2 r hr7
          have := wids_le g.gp (o := some b.1) (fun c hc => by cases hc; exact order_names (g.col d b hb))
          omega
        refine ⟨t3, t4, _, _, rfl, rfl, ht37, ht7, big' (by rw [List.length_append, iVs_len, iVs_len]; simp; omega), fun t5 H8 s8 ht8 => ?_⟩
        refine ⟨c ++ e.1 :: r, t5, _, _, _, rfl, ?_, ?_, ?_, o2.trans (o4.trans ((Same.off s46).trans (o7.trans (Same.off s8))))⟩
        · rw [ht8]
          simp [iVs]
        · obtain ⟨ei, hei⟩ := List.mem_iff_getElem?.mp he
          exact (bl_step g hp hd hb hei (p := r) hc).2.mpr hr7
        · rw [hsum]
          exact (hw7.same s8).mono (by omega)
      · rintro σ H2 ⟨c, t, v4, v5, v6, rfl, ht, hc, hw2, o2⟩
        rw [nVs_len, List.take_length] at hc hw2
        rw [hp.sum] at hw2
        exact ⟨_, rfl, q t c H2 hc ht hw2 o2⟩
end
end Fb
set_option Elab.async false
set_option linter.all false
set_option maxRecDepth 100000
set_option maxHeartbeats 400000
/-! Trees: what is read of them. -/
namespace Fb
open PySem PySem.Spec PyProof.Rows L2
def NmP (ps : Prs Str) : Prop := ∀ x ∈ ps, Nm x.1
theorem NmP.of {ps : Prs Str} (h : NmP ps) {c : Str} (hc : ∃ q, (c, q) ∈ ps) : Nm c := let ⟨_, m⟩ := hc; h _ m
theorem ovs_get {ps : Prs Str} (nd : (ps.map (·.1)).Nodup) {c : Str} {o : Option Str} (h : (c, o) ∈ ps) : valV (ovs ps) (Sum.inr c) = some (optV o) := by
  induction ps with
  | nil => cases h
  | cons p ps ih =>
    obtain ⟨n1, n2⟩ := List.nodup_cons.mp nd
    rcases List.mem_cons.mp h with e | h
    · subst e
      exact valV_pos (p := ((Sum.inr c : Key), optV o)) rfl
    · have : ¬ (Sum.inr p.1 : Key) = Sum.inr c := fun e => by
        injection e with e
        exact n1 (List.mem_map.mpr ⟨_, h, e.symm⟩)
      exact (valV_neg (p := ((Sum.inr p.1 : Key), optV p.2)) this).trans (ih n2 h)
theorem ovs_none {ps : Prs Str} {c : Str} (h : c ∉ ps.map (·.1)) : valV (ovs ps) (Sum.inr c) = none := by
  induction ps with
  | nil => rfl
  | cons p ps ih =>
    rw [List.map_cons, List.mem_cons] at h
    have : ¬ (Sum.inr p.1 : Key) = Sum.inr c := fun e => by
      injection e with e
      exact h (.inl e.symm)
    exact (valV_neg (p := ((Sum.inr p.1 : Key), optV p.2)) this).trans (ih fun z => h (.inr z))
theorem ovs_in {ps : Prs Str} (nd : (ps.map (·.1)).Nodup) {c : Str} (h : ∃ q, (c, q) ∈ ps) : (valV (ovs ps) (Sum.inr c)).isSome = true := by
  obtain ⟨q, h⟩ := h
  rw [ovs_get nd h]
  rfl
section
variable {P : Program} {w : World} {K : PySem.W.Frag} {mg : Str → Option Value} {base : Heap}
def sp_is_pair : Sp := fun vs H Q _ => ∃ (a d : Addr) (qs : Prs Str) (c : Str) (o : Option Str), vs = [.ref a, .ref d] ∧ H a = some (.tup [.str c, optV o]) ∧ Nm c ∧ H d = some (.dK (ovs qs)) ∧ (qs.map (·.1)).Nodup ∧ c ∉ qs.map (·.1) ∧ (∀ x, o = some x → Nm x ∧ ∃ q, (x, q) ∈ qs) ∧ Q (.bl true) H
theorem ok_is_pair (T : Txt K mg) : FnOk P w K mg base CX0 2 T.f_is_pair T.fd_is_pair ["thing", "overs"] sp_is_pair := by
  have G_is_name : FnOk P w K mg base CX0 1 T.f_is_name T.fd_is_name ["thing"] sp_is_name := ok_is_name T
  refine T.F_is_pair.ok sc_is_pair (fun vs H Q E h => ?_) (fun cdv A outer s H vs Q E hr h => ?_)
  · obtain ⟨a, d, qs, c, o, rfl, _⟩ := h
    rfl
  · obtain ⟨a, d, qs, c, o, rfl, ha, hc, hd, nd, hcn, ho, q⟩ := h
    have hu := hu_of hr
    refine ⟨_, (pss_cons (ps_if (PW.pt (pw_or (pt_not (pt_val (pe_callB call_isi (by rfl) T.n_isinstance (by decide +kernel) (pa_cons (pv 0) (pa_cons (pe_bltn (v := .ty "tuple") (by rfl) T.n_tuple (by decide +kernel) rfl) pa_nil))))) (pw_or (pt_cmpR op_ne (pe_callB call_len_seq (by rfl) T.n_len PySem.boot_len (pa_cons (pv 0) pa_nil)) pe_int (nomark _)) (pw_or (pt_not (pt_val (pe_call G_is_name (hr.mono (by omega)) (by rfl) T.m_is_name T.F_is_name.kp T.b_is_name .nil pass0 (pa_cons (pe_ix ix_tup (pv 0) pe_int (fun _ _ => rfl)) pa_nil)))) (pw_or1 (pt_cmp (pc_din hu (pe_ix ix_tup (pv 0) pe_int (fun _ _ => rfl)) (pv 1)))))))) (pss_one (ps_ret pe_bl)) pss_nil)
    (pss_one (ps_ret (pe_or (pe_cmpR op_isN (pe_ix ix_tup (pv 0) pe_int (fun _ _ => rfl)) pe_non (nomark _)) (pe_one (pe_and (pe_call G_is_name (hr.mono (by omega)) (by rfl) T.m_is_name T.F_is_name.kp T.b_is_name .nil pass0 (pa_cons (pe_ix ix_tup (pv 0) pe_int (fun _ _ => rfl)) pa_nil)) (pe_one (pe_cmp (pc_din hu (pe_ix ix_tup (pv 0) pe_int (fun _ _ => rfl)) (pv 1)))))))))), ?_⟩
    refine ⟨_, rfl, _, _, _, _, true, rfl, .ty _, .base (.tup ha), kit_ty (by decide +kernel), true, rfl, ?_⟩
    refine ⟨_, rfl, a, _, rfl, .inr (SqT.of ha), rfl, _, rfl, ?_⟩
    refine ⟨_, rfl, a, _, _, _, rfl, rfl, SqT.of ha, rfl, c, rfl, hc, true, rfl, ?_⟩
    refine ⟨_, rfl, a, _, _, _, rfl, rfl, SqT.of ha, rfl, _, rfl, d, none, rfl, ?_, false, rfl, ?_⟩
    · rw [← ovs_none hcn]
      exact DGet.k (k := Sum.inr c) hd
    refine ⟨_, rfl, a, _, _, _, rfl, rfl, SqT.of ha, rfl, rfl, ?_⟩
    cases o with
    | none => exact ⟨true, rfl, q⟩
    | some x =>
      obtain ⟨hx, hxq⟩ := ho x rfl
      refine ⟨false, rfl, ?_⟩
      refine ⟨_, rfl, a, _, _, _, rfl, rfl, SqT.of ha, rfl, x, rfl, hx, true, rfl, ?_⟩
      refine ⟨_, rfl, a, _, _, _, rfl, rfl, SqT.of ha, rfl, _, rfl, d, _, rfl, DGet.k (k := Sum.inr x) hd, ?_⟩
      rw [ovs_in nd hxq]
      exact q
def sp_order_from (P : Program) (w : World) (n : Nat) : Sp := fun vs H Q _ => ∃ (d : Addr) (ps : Prs Str) (c : Str), vs = [.ref d, .str c] ∧ KidsAt P w H d ps ∧ GoodP ps ∧ (∃ q, (c, q) ∈ ps) ∧ rankP ps c ≤ n ∧ BackL H Q (sVs (ben ps 8 c))
theorem ok_order_from (T : Txt K mg) : ∀ n : Nat, FnOk P w K mg base CX0 (n + 1) T.f_order_from T.fd_order_from ["kids", "column"] (sp_order_from P w n) := by
  intro n
  induction n with
  | zero =>
    refine T.F_order_from.ok sc_order_from (fun vs H Q E h => ?_) (fun cdv A outer s H vs Q E hr h => ?_)
    · obtain ⟨_, _, _, rfl, _⟩ := h
      rfl
    · obtain ⟨d, ps, c, rfl, hd, g, ⟨q0, hc⟩, hk, _⟩ := h
      have := (rank_pos g hc).1
      omega
  | succ n ih =>
    have G_order_from := ih
    refine T.F_order_from.ok sc_order_from (fun vs H Q E h => ?_) (fun cdv A outer s H vs Q E hr h => ?_)
    · obtain ⟨_, _, _, rfl, _⟩ := h
      rfl
    · obtain ⟨d, ps, c, rfl, hd, g, hc, hk, q⟩ := h
      have hu := hu_of hr
      obtain ⟨kvs, hd1, hd2⟩ := hd
      obtain ⟨kl, hkv, hkl⟩ := hd2 (some c) fun x e => by cases e; exact hc
      refine ⟨_, (pss_cons (ps_set (i := 2) sc_order_from.nd rfl (Or.inl rfl) (pe_lst (pa_cons (pv 1) pa_nil)))
    (pss_cons (ps_for PassesOwn.never (by rfl) (pi_list (pe_dgetN (pv 0) (pv 1) (fun _ _ => rfl))) (pg_name (i := 3) sc_order_from.nd rfl (Or.inl rfl)) (pss_one (ps_expr (pe_bm PySem.F.plainAttrs_list PySem.F.slot_list_extend PySem.F.type_list_extend mt_extend (pv 2) (pa_cons (pe_call G_order_from (hr.mono (by omega)) (by rfl) T.m_order_from T.F_order_from.kp T.b_order_from .nil pass0 (pa_cons (pv 0) (pa_cons (pv 3) pa_nil))) pa_nil)))))
    (pss_one (ps_ret (pv 2))))), ?_⟩
      refine ⟨_, rfl, big' (by simp), fun f hf => ?_⟩
      have s0 : Same H (upd H f (.lst [.str c])) := Same.new hf
      refine ⟨_, rfl, _, rfl, d, kvs, .text c, _, rfl, s0 _ _ hd1, rfl, hkv, kl, rfl, ⟨_, SqL.of (s0 _ _ hkl)⟩, ?_⟩
      have hkf : kl ≠ f := fun e => by rw [e, hf] at hkl; cases hkl
      refine for_it (walk_list (K := K) (a := kl) (xs := sVs (kidsOf ps (some c)))) (fun i σ H' => ∃ v3 : Option V, σ = [some (.ref d), some (.str c), some (.ref f), v3] ∧ H' f = some (.lst (sVs (c :: ((kidsOf ps (some c)).take i).flatMap (ben ps 8)))) ∧ Same H H') ?_ ?_ ?_ ?_
      · exact ⟨none, rfl, upd_same, s0⟩
      · rintro i σ H' hi ⟨v3, _, _, s⟩
        exact SqL.of (s _ _ hkl)
      · rintro i x σ H3 H2 hi ⟨v3, rfl, hf2, s2⟩ ⟨rfl, hx⟩
        rw [sVs_get] at hx
        obtain ⟨k, hk2, rfl⟩ := Option.map_eq_some_iff.mp hx
        have hkm : k ∈ kidsOf ps (some c) := List.mem_of_getElem? hk2
        have hr1 := (rank_kid g hkm).1
        refine ⟨_, rfl, tyL hf2, _, rfl, _, rfl, d, ps, k, rfl, ⟨kvs, s2 _ _ hd1, fun o ho => let ⟨l, a1, b1⟩ := hd2 o ho; ⟨l, a1, s2 _ _ b1⟩⟩, g, ⟨_, mem_kids.mp hkm⟩, by omega, fun r H4 hr0 s4 hr4 => ?_⟩
        have hwl : (c :: ((kidsOf ps (some c)).take i).flatMap (ben ps 8)).length + (ben ps 8 k).length ≤ 8 := by
          have h1 := wid_le g hc
          unfold wid at h1
          rw [ben_eq g hc, List.length_cons] at h1
          have h2 := flat_sub (f := ben ps 8) (List.take_sublist (i + 1) (kidsOf ps (some c)))
          rw [take_at hk2, List.flatMap_append] at h2
          simp only [List.length_append, List.flatMap_cons, List.flatMap_nil, List.append_nil, List.length_cons] at h2 ⊢
          omega
        refine ⟨f, r, _, _, rfl, rfl, s4 _ _ hf2, hr4, ?_, _, rfl, ?_, ?_⟩
        · rw [sVs_len, sVs_len]
          exact big' (by omega)
        · rw [upd_same, take_at hk2]
          simp [sVs]
        · intro b o e
          rw [upd_ne (fun z => by rw [z, hf] at e; cases e)]
          exact s4 _ _ (s2 _ _ e)
      · rintro σ H2 ⟨v3, rfl, hf2, s2⟩
        refine ⟨_, rfl, q f H2 hf s2 ?_⟩
        rw [hf2, sVs_len, List.take_length, ben_eq g hc]
/-! ### the methods -/
def sp_Tree_len (P : Program) (w : World) (C : Addr) : Sp := fun vs H Q _ => ∃ (t : Addr) (ps : Prs Str), vs = [.ref t] ∧ TreeAt P w C H t ps ∧ Q (.int (order ps).length) H
theorem ok_Tree_len (T : Txt K mg) : FnOk P w K mg base CX0 1 T.f_Tree_len T.fd_Tree_len ["self"] (sp_Tree_len P w T.C_Tree) := by
  refine T.F_Tree_len.ok sc_Tree_len (fun vs H Q E h => ?_) (fun cdv A outer s H vs Q E hr h => ?_)
  · obtain ⟨_, _, rfl, _⟩ := h
    rfl
  · obtain ⟨t, ps, rfl, ⟨dx, d1, d2, d3, ht, hd1, hd2, hd3⟩, q⟩ := h
    refine ⟨_, (pss_one (ps_ret (pe_callB call_len_seq (by rfl) T.n_len PySem.boot_len (pa_cons (pe_fld (pv 0) rfl) pa_nil)))), ?_⟩
    refine ⟨_, rfl, t, _, dx, _, _, rfl, ht, T.cl_Tree, T.na_Tree_order, rfl, d3, _, rfl, .inl (SqL.of hd3), ?_⟩
    rw [sVs_len]
    exact q
def sp_Tree_want (P : Program) (w : World) (C : Addr) : Sp := fun vs H Q _ => ∃ (t : Addr) (ps : Prs Str) (c : Str), vs = [.ref t, .str c] ∧ TreeAt P w C H t ps ∧ GoodP ps ∧ Nm c ∧ (∃ q, (c, q) ∈ ps) ∧ Q .non H
theorem ok_Tree_want (T : Txt K mg) : FnOk P w K mg base CX0 2 T.f_Tree_want T.fd_Tree_want ["self", "column"] (sp_Tree_want P w T.C_Tree) := by
  have G_is_name : FnOk P w K mg base CX0 1 T.f_is_name T.fd_is_name ["thing"] sp_is_name := ok_is_name T
  refine T.F_Tree_want.ok sc_Tree_want (fun vs H Q E h => ?_) (fun cdv A outer s H vs Q E hr h => ?_)
  · obtain ⟨_, _, _, rfl, _⟩ := h
    rfl
  · obtain ⟨t, ps, c, rfl, ⟨dx, d1, d2, d3, ht, hd1, hd2, hd3⟩, g, hc, hcp, q⟩ := h
    have hu := hu_of hr
    refine ⟨_, (pss_one (ps_if (PW.pt (pw_or (pt_not (pt_val (pe_call G_is_name (hr.mono (by omega)) (by rfl) T.m_is_name T.F_is_name.kp T.b_is_name .nil pass0 (pa_cons (pv 1) pa_nil)))) (pw_or1 (pt_cmp (pc_dnotin hu (pv 1) (pe_fld (pv 0) rfl)))))) (pss_one ps_never) pss_nil)), ?_⟩
    refine ⟨_, rfl, c, rfl, hc, true, rfl, ?_⟩
    refine ⟨_, rfl, _, rfl, t, _, dx, _, _, rfl, ht, T.cl_Tree, T.na_Tree_overs, rfl, d1, _, rfl, DGet.k (k := Sum.inr c) hd1, _, rfl, ?_⟩
    rw [ovs_in g.nd hcp]
    exact q
def sp_Tree_columns (P : Program) (w : World) (C : Addr) : Sp := fun vs H Q _ => ∃ (t : Addr) (ps : Prs Str), vs = [.ref t] ∧ TreeAt P w C H t ps ∧ BackL H Q (sVs (order ps))
theorem ok_Tree_columns (T : Txt K mg) : FnOk P w K mg base CX0 1 T.f_Tree_columns T.fd_Tree_columns ["self"] (sp_Tree_columns P w T.C_Tree) := by
  refine T.F_Tree_columns.ok sc_Tree_columns (fun vs H Q E h => ?_) (fun cdv A outer s H vs Q E hr h => ?_)
  · obtain ⟨_, _, rfl, _⟩ := h
    rfl
  · obtain ⟨t, ps, rfl, ⟨dx, d1, d2, d3, ht, hd1, hd2, hd3⟩, q⟩ := h
    refine ⟨_, (pss_one (ps_ret (pe_callTy call_list_of (by rfl) T.n_list (by decide +kernel) (pa_cons (pe_fld (pv 0) rfl) pa_nil)))), ?_⟩
    exact ⟨_, rfl, t, _, dx, _, _, rfl, ht, T.cl_Tree, T.na_Tree_order, rfl, d3, _, rfl, .inl (SqL.of hd3), fun l hl => q l _ hl (Same.new hl) upd_same⟩
def sp_Tree_beneath (P : Program) (w : World) (C : Addr) : Sp := fun vs H Q _ => ∃ (t : Addr) (ps : Prs Str) (c : Str), vs = [.ref t, .str c] ∧ TreeAt P w C H t ps ∧ GoodP ps ∧ Nm c ∧ (∃ q, (c, q) ∈ ps) ∧ BackL H Q (sVs (ben ps 8 c))
theorem ok_Tree_beneath (T : Txt K mg) : FnOk P w K mg base CX0 10 T.f_Tree_beneath T.fd_Tree_beneath ["self", "column"] (sp_Tree_beneath P w T.C_Tree) := by
  have G_Tree_want : FnOk P w K mg base CX0 2 T.f_Tree_want T.fd_Tree_want ["self", "column"] (sp_Tree_want P w T.C_Tree) := ok_Tree_want T
  have G_order_from : FnOk P w K mg base CX0 9 T.f_order_from T.fd_order_from ["kids", "column"] (sp_order_from P w 8) := ok_order_from T 8
  refine T.F_Tree_beneath.ok sc_Tree_beneath (fun vs H Q E h => ?_) (fun cdv A outer s H vs Q E hr h => ?_)
  · obtain ⟨_, _, _, rfl, _⟩ := h
    rfl
  · obtain ⟨t, ps, c, rfl, hT, g, hc, hcp, q⟩ := h
    obtain ⟨dx, d1, d2, d3, ht, hd1, hd2, hd3⟩ := id hT
    refine ⟨_, (pss_cons (ps_expr (pe_meth (pv 0) T.cl_Tree T.mt_Tree_want G_Tree_want (hr.mono (by omega)) T.b_Tree_want .nil pass0 (pa_cons (pv 1) pa_nil)))
    (pss_one (ps_ret (pe_call G_order_from (hr.mono (by omega)) (by rfl) T.m_order_from T.F_order_from.kp T.b_order_from .nil pass0 (pa_cons (pe_fld (pv 0) rfl) (pa_cons (pv 1) pa_nil)))))), ?_⟩
    refine ⟨_, rfl, t, dx, _, rfl, ht, rfl, _, rfl, t, ps, c, rfl, hT, g, hc, hcp, ?_⟩
    exact ⟨_, rfl, t, _, dx, _, _, rfl, ht, T.cl_Tree, T.na_Tree_kids, rfl, _, rfl, d2, ps, c, rfl, hd2, g, hcp, (by obtain ⟨q0, h0⟩ := hcp; exact (rank_pos g h0).2), q⟩
def sp_Tree_children (P : Program) (w : World) (C : Addr) : Sp := fun vs H Q _ => ∃ (t : Addr) (ps : Prs Str) (o : Option Str), vs = [.ref t, optV o] ∧ TreeAt P w C H t ps ∧ GoodP ps ∧ (∀ c, o = some c → Nm c ∧ ∃ q, (c, q) ∈ ps) ∧ BackL H Q (sVs (kidsOf ps o))
theorem ok_Tree_children (T : Txt K mg) : FnOk P w K mg base CX0 3 T.f_Tree_children T.fd_Tree_children ["self", "column"] (sp_Tree_children P w T.C_Tree) := by
  have G_Tree_want : FnOk P w K mg base CX0 2 T.f_Tree_want T.fd_Tree_want ["self", "column"] (sp_Tree_want P w T.C_Tree) := ok_Tree_want T
  refine T.F_Tree_children.ok sc_Tree_children (fun vs H Q E h => ?_) (fun cdv A outer s H vs Q E hr h => ?_)
  · obtain ⟨_, _, _, rfl, _⟩ := h
    rfl
  · obtain ⟨t, ps, o, rfl, hT, g, ho, q⟩ := h
    obtain ⟨dx, d1, d2, d3, ht, hd1, ⟨kvs, hd2, hd4⟩, hd3⟩ := id hT
    obtain ⟨kl, hkv, hkl⟩ := hd4 o fun c e => (ho c e).2
    refine ⟨_, ((Evl.pss_cut (ps_if (pt_cmpR op_notN (pv 1) pe_non (nomark _)) (pss_one (ps_expr (pe_meth (pv 0) T.cl_Tree T.mt_Tree_want G_Tree_want (hr.mono (by omega)) T.b_Tree_want .nil pass0 (pa_cons (pv 1) pa_nil)))) pss_nil)
    (pss_one (ps_ret (pe_callTy call_list_of (by rfl) T.n_list (by decide +kernel) (pa_cons (pe_dgetN (pe_fld (pv 0) rfl) (pv 1) (fun _ _ => rfl)) pa_nil))))) : PSs (cxOf CX0 P w K mg base N_Tree_children "Tree.children" (defScope s_Tree_children) T.f_Tree_children cdv A outer s H E) (defBody s_Tree_children) _), ?_⟩
    refine ⟨fun σ' H' => σ' = [some (.ref t), some (optV o)] ∧ H' = H, ?_, ?_⟩
    · refine ⟨_, rfl, rfl, _, rfl, ?_⟩
      cases o with
      | none => exact ⟨rfl, rfl⟩
      | some c =>
        exact ⟨_, rfl, t, dx, _, rfl, ht, rfl, _, rfl, t, ps, c, rfl, hT, g, (ho c rfl).1, (ho c rfl).2, rfl, rfl⟩
    · rintro σ' H' ⟨rfl, rfl⟩
      exact ⟨_, rfl, t, _, dx, _, _, rfl, ht, T.cl_Tree, T.na_Tree_kids, rfl, _, rfl, d2, kvs, optL o, _, rfl, hd2, (optL_V o).symm, hkv, kl, _, rfl, .inl (SqL.of hkl), fun l hl => q l _ hl (Same.new hl) upd_same⟩
end
end Fb
set_option Elab.async false
set_option linter.all false
set_option maxRecDepth 100000
set_option maxHeartbeats 1000000
/-! A new tree. -/
namespace Fb
open PySem PySem.Spec PyProof.Rows L2
def Vo (qs : Prs Str) (o : Option Str) : Prop := ∀ c, o = some c → ∃ q, (c, q) ∈ qs
section
variable {P : Program} {w : World} {K : PySem.W.Frag} {mg : Str → Option Value} {base : Heap}
theorem lf_lst {a : Addr} {kvs : List (Leaf × V)} {xs : List V} (h : some (HO.lst xs) = some (LfO P w a kvs)) : False := by
  unfold LfO at h
  cases h
theorem lf_dk {a : Addr} {kvs : List (Leaf × V)} {xs : List (Key × V)} (h : some (HO.dK xs) = some (LfO P w a kvs)) : False := by
  unfold LfO at h
  cases h
theorem lf_ins {a C dx : Addr} {kvs : List (Leaf × V)} {xs : List (Str × V)} (h : some (HO.ins C dx xs) = some (LfO P w a kvs)) : False := by
  unfold LfO at h
  cases h
theorem ovs_put {qs : Prs Str} {c : Str} {o : Option Str} (h : c ∉ qs.map (·.1)) : putK (ovs qs) (Sum.inr c) (optV o) = ovs (qs ++ [(c, o)]) := by
  rw [putK_new _ (ovs_none h)]
  simp [ovs]
theorem optL_inj {a b : Option Str} (h : optL a = optL b) : a = b := by
  cases a <;> cases b <;> simp [optL] at h ⊢
  exact h
def sp_Tree_init (P : Program) (w : World) (C : Addr) : Sp := fun vs H Q _ => ∃ (x l dx : Addr) (ps : Prs Str), vs = [.ref x, .ref l] ∧ H x = some (.ins C dx []) ∧ PairsL H l ps ∧ GoodP ps ∧ NmP ps ∧ ∀ H', TreeAt P w C H' x ps → Off [x] H H' → Q .non H'
theorem ok_Tree_init (T : Txt K mg) : FnOk P w K mg base CX0 10 T.f_Tree_init T.fd_Tree_init ["self", "pairs"] (sp_Tree_init P w T.C_Tree) := by
  have G_is_pair : FnOk P w K mg base CX0 2 T.f_is_pair T.fd_is_pair ["thing", "overs"] sp_is_pair := ok_is_pair T
  have G_order_from : FnOk P w K mg base CX0 9 T.f_order_from T.fd_order_from ["kids", "column"] (sp_order_from P w 8) := ok_order_from T 8
  refine T.F_Tree_init.ok sc_Tree_init (fun vs H Q E h => ?_) (fun cdv A outer s H vs Q E hr h => ?_)
  · obtain ⟨_, _, _, _, rfl, _⟩ := h
    rfl
  · obtain ⟨x, l, dx, ps, rfl, hx, ⟨lv, hl, hP⟩, g, hN, q⟩ := h
    have hu := hu_of hr
    refine ⟨_, (pss_cons (ps_if (pt_not (pt_val (pe_callB call_isi (by rfl) T.n_isinstance (by decide +kernel) (pa_cons (pv 1) (pa_cons (pe_bltn (v := .ty "list") (by rfl) T.n_list (by decide +kernel) rfl) pa_nil))))) (pss_one ps_never) pss_nil)
    (pss_cons (ps_fld (pv 0) pe_dnewK rfl)
    (pss_cons (ps_fld (pv 0) (pe_dispN (pps_cons pe_non (pe_lst pa_nil) pps_nil) (by rfl) (by rfl) (fun z => by cases z) (by decide)) rfl)
    (pss_cons (ps_for PassesOwn.never (by rfl) (pi_enum (by rfl) T.n_enumerate (pa_cons (pv 1) pa_nil)) (pg_tup (by rfl) (pgs_cons (pg_name (i := 2) sc_Tree_init.nd rfl (Or.inl rfl)) (pgs_cons (pg_name (i := 3) sc_Tree_init.nd rfl (Or.inl rfl)) pgs_nil))) (pss_cons (ps_if (PW.pt (pw_or (pt_cmpR op_eq (pv 2) (pe_glob (by rfl) T.c_MOST_COLUMNS T.r_MOST_COLUMNS) (nomark _)) (pw_or1 (pt_not (pt_val (pe_call G_is_pair (hr.mono (by omega)) (by rfl) T.m_is_pair T.F_is_pair.kp T.b_is_pair .nil pass0 (pa_cons (pv 3) (pa_cons (pe_fld (pv 0) rfl) pa_nil)))))))) (pss_one ps_never) pss_nil)
      (pss_cons (ps_asg (pv 3) (pg_tup (by rfl) (pgs_cons (pg_name (i := 4) sc_Tree_init.nd rfl (Or.inl rfl)) (pgs_cons (pg_name (i := 5) sc_Tree_init.nd rfl (Or.inl rfl)) pgs_nil))))
      (pss_cons (ps_dput hu (pe_fld (pv 0) rfl) (pv 4) (pv 5) rfl)
      (pss_cons (ps_dputN (pe_fld (pv 0) rfl) (pv 4) (pe_lst pa_nil) rfl)
      (pss_one (ps_expr (pe_bm PySem.F.plainAttrs_list PySem.F.slot_list_append PySem.F.type_list_append mt_append (pe_dgetN (pe_fld (pv 0) rfl) (pv 5) (fun _ _ => rfl)) (pa_cons (pv 4) pa_nil)))))))))
    (pss_cons (ps_fld (pv 0) (pe_lst pa_nil) rfl)
    (pss_one (ps_for PassesOwn.never (by rfl) (pi_list (pe_dgetN (pe_fld (pv 0) rfl) pe_non (fun _ _ => rfl))) (pg_name (i := 4) sc_Tree_init.nd rfl (Or.inl rfl)) (pss_one (ps_expr (pe_bm PySem.F.plainAttrs_list PySem.F.slot_list_extend PySem.F.type_list_extend mt_extend (pe_fld (pv 0) rfl) (pa_cons (pe_call G_order_from (hr.mono (by omega)) (by rfl) T.m_order_from T.F_order_from.kp T.b_order_from .nil pass0 (pa_cons (pe_fld (pv 0) rfl) (pa_cons (pv 4) pa_nil))) pa_nil))))))))))), ?_⟩
    have hps8 := g.le
    have hlv : lv.length = ps.length := Paired.length hP
    have hlx : l ≠ x := fun e => by rw [e, hx] at hl; cases hl
    refine ⟨_, rfl, _, _, _, _, true, rfl, .ty _, .base (.lst hl), kit_ty (by decide +kernel), true, rfl, ?_⟩
    refine fun d1 hd1 => ⟨_, rfl, x, _, dx, _, rfl, Same.new hd1 _ _ hx, T.cl_Tree, T.na_Tree_overs, by decide, ?_⟩
    have hd1x : d1 ≠ x := fun e => by rw [e, hx] at hd1; cases hd1
    have hd1l : d1 ≠ l := fun e => by rw [e, hl] at hd1; cases hd1
    refine fun d2 hd2 => ⟨by decide, fun n0 hn0 => ⟨?_, [(.none, .ref n0)], rfl, by simp, by simp, ?_⟩⟩
    · rw [upd_ne (fun e => by rw [← e, upd_same] at hn0; cases hn0)]
      exact upd_same
    have hd2x : d2 ≠ x := fun e => by rw [e, upd_same] at hd2; cases hd2
    rw [upd_ne hd2x] at hd2
    have hd21 : d2 ≠ d1 := fun e => by rw [e, upd_same] at hd2; cases hd2
    rw [upd_ne hd21] at hd2
    have hn02 : n0 ≠ d2 := fun e => by rw [e, upd_same] at hn0; cases hn0
    rw [upd_ne hn02] at hn0
    have hn0x : n0 ≠ x := fun e => by rw [e, upd_same] at hn0; cases hn0
    rw [upd_ne hn0x] at hn0
    have hn01 : n0 ≠ d1 := fun e => by rw [e, upd_same] at hn0; cases hn0
    rw [upd_ne hn01] at hn0
    have hd2l : d2 ≠ l := fun e => by rw [e, hl] at hd2; cases hd2
    have hn0l : n0 ≠ l := fun e => by rw [e, hl] at hn0; cases hn0
    refine ⟨_, rfl, x, _, dx, [("overs", .ref d1)], rfl, by simp [upd, hd2x.symm, hn0x.symm]; rfl, T.cl_Tree, T.na_Tree_kids, by simp, ?_⟩
    refine ⟨_, rfl, l, lv, rfl, SqL.of (by simp [upd, hlx, hd2l.symm, hn0l.symm, hd1l.symm]; exact hl), ?_⟩
    refine for_it (walk_enum (K := K) (a := l) (xs := lv)) (fun i σ H' => ∃ (kvs : List (Leaf × V)) (L : Option Str → Addr) (v2 v3 v4 v5 : Option V), σ = [some (.ref x), some (.ref l), v2, v3, v4, v5] ∧ H' x = some (.ins T.C_Tree dx [("overs", .ref d1), ("kids", .ref d2)]) ∧ H' d1 = some (.dK (ovs (ps.take i))) ∧ H' d2 = some (LfO P w d2 kvs) ∧
      (∀ o, Vo (ps.take i) o → valV kvs (optL o) = some (.ref (L o)) ∧ H' (L o) = some (.lst (sVs (kidsOf (ps.take i) o))) ∧ H (L o) = none) ∧ (∀ o o', Vo (ps.take i) o → Vo (ps.take i) o' → L o = L o' → o = o') ∧ kvs.length ≤ i + 1 ∧ Off [x] H H') ?_ ?_ ?_ ?_
    · refine ⟨[(.none, .ref n0)], fun _ => n0, none, none, none, none, rfl, upd_same, ?_, ?_, ?_, ?_, by simp, ?_⟩
      · simp [upd, hd1x, hd21.symm, hn01.symm, ovs]
      · rw [upd_ne hd2x, upd_same]
        rfl
      · intro o ho
        cases o with
        | none => 
          refine ⟨rfl, ?_, hn0⟩
          rw [upd_ne hn0x, upd_ne hn02, upd_same]
          rfl
        | some c => obtain ⟨q, hq⟩ := ho c rfl; simp at hq
      · intro o o' ho ho' _
        cases o with
        | some c => obtain ⟨q, hq⟩ := ho c rfl; simp at hq
        | none => cases o' with
          | some c => obtain ⟨q, hq⟩ := ho' c rfl; simp at hq
          | none => rfl
      · intro b o hb e
        have b1 : b ≠ x := by simpa using hb
        have b2 : b ≠ d1 := fun z => by rw [z, hd1] at e; cases e
        have b3 : b ≠ d2 := fun z => by rw [z, hd2] at e; cases e
        have b4 : b ≠ n0 := fun z => by rw [z, hn0] at e; cases e
        simp [upd, b1, b2, b3, b4, e]
    · rintro i σ H' hi ⟨kvs, L, v2, v3, v4, v5, _, _, _, _, _, _, _, o⟩
      exact SqL.of (o _ _ (by simpa using hlx) hl)
    · rintro i z σ H2 H3 hi ⟨kvs, L, v2, v3, v4, v5, rfl, hx2, hd12, hd22, hL, hinj, hkl, o2⟩ ⟨t, y1, y2, rfl, ht, rfl, hy1, hy2⟩
      cases hy1
      obtain ⟨⟨c, o⟩, hpr, a, rfl, ha⟩ := Paired.ofL hP hy2
      have hi8 : i < 8 := by
        have := (List.getElem?_eq_some_iff.mp hpr).1
        omega
      have hmem : (c, o) ∈ ps := List.mem_of_getElem? hpr
      have hax : a ≠ x := fun e => by rw [e, hx] at ha; cases ha
      have s3 : Same H2 (upd H2 t (.tup [nV i, .ref a])) := Same.new ht
      have ha2 : H2 a = some (.tup [.str c, optV o]) := o2 _ _ (by simpa using hax) ha
      have hcn : c ∉ (ps.take i).map (·.1) := fun h => by
        obtain ⟨⟨c', q'⟩, h1, rfl⟩ := List.mem_map.mp h
        obtain ⟨j, hj⟩ := List.mem_iff_getElem?.mp h1
        rw [List.getElem?_take] at hj
        split at hj
        · have := g.uniq hj hpr
          omega
        · cases hj
      have hoV : Vo (ps.take i) o := fun d e => by
        subst e
        obtain ⟨j, hj, q', hq'⟩ := g.up i c d hpr
        exact ⟨q', List.mem_of_getElem? (by rw [List.getElem?_take, if_pos hj]; exact hq')⟩
      have hnd : ((ps.take i).map (·.1)).Nodup := g.nd.sublist ((List.take_sublist i ps).map _)
      refine ⟨t, _, rfl, SqT.of upd_same, rfl, _, _, rfl, _, _, rfl, rfl, ?_⟩
      have e8 : decide (V.int (i : Int) = V.int 8) = false := decide_eq_false fun e => by injection e with e; omega
      refine ⟨_, rfl, rfl, _, rfl, ?_⟩
      rw [e8]
      refine ⟨_, rfl, _, rfl, x, _, dx, _, _, rfl, s3 _ _ hx2, T.cl_Tree, T.na_Tree_overs, rfl, a, d1, ps.take i, c, o, rfl, s3 _ _ ha2, hN _ hmem, s3 _ _ hd12, hnd, hcn, fun y e => ?_, true, rfl, ?_⟩
      · obtain ⟨q', hq'⟩ := hoV y e
        exact ⟨hN _ (List.mem_of_mem_take hq'), q', hq'⟩
      refine ⟨_, rfl, a, _, rfl, SqT.of (s3 _ _ ha2), rfl, _, _, rfl, _, _, rfl, rfl, ?_⟩
      have hd12n : d1 ≠ d2 := fun e => by rw [e, hd22] at hd12; exact lf_dk hd12.symm
      have hd1x' : d1 ≠ x := fun e => by rw [e, hx2] at hd12; cases hd12
      have hd2x' : d2 ≠ x := fun e => by rw [e, hx2] at hd22; exact lf_ins hd22
      have htx : t ≠ x := fun e => by rw [e, hx2] at ht; cases ht
      have ht1 : t ≠ d1 := fun e => by rw [e, hd12] at ht; cases ht
      have ht2 : t ≠ d2 := fun e => by rw [e, hd22] at ht; cases ht
      have hLt : ∀ o, Vo (ps.take i) o → L o ≠ t := fun o ho e => by
        have := (hL o ho).2.1
        rw [e, ht] at this; cases this
      have hL1 : ∀ o, Vo (ps.take i) o → L o ≠ d1 := fun o ho e => by
        have := (hL o ho).2.1
        rw [e, hd12] at this; cases this
      have hL2 : ∀ o, Vo (ps.take i) o → L o ≠ d2 := fun o ho e => by
        have := (hL o ho).2.1
        rw [e, hd22] at this; exact lf_lst this.symm
      have hLx : ∀ o, Vo (ps.take i) o → L o ≠ x := fun o ho e => by
        have := (hL o ho).2.1
        rw [e, hx2] at this; cases this
      refine ⟨_, rfl, _, rfl, x, _, dx, _, _, rfl, s3 _ _ hx2, T.cl_Tree, T.na_Tree_overs, rfl, _, rfl, d1, _, rfl, DPut.k (k := Sum.inr c) (s3 _ _ hd12) (big (by simp [ovs]; omega)), ?_⟩
      rw [ovs_put hcn]
      refine ⟨by decide, fun n1 hn1 => ⟨_, rfl, x, _, dx, [("overs", .ref d1), ("kids", .ref d2)], _, rfl, ?_, T.cl_Tree, T.na_Tree_kids, rfl, _, rfl, d2, kvs, .text c, rfl, ?_, rfl, big (by omega), ?_⟩⟩
      · rw [upd_ne (fun e => by rw [← e, upd_ne hd1x'.symm, upd_ne htx.symm, hx2] at hn1; cases hn1), upd_ne hd1x'.symm, upd_ne htx.symm]
        exact hx2
      · rw [upd_ne (fun e => by rw [← e, upd_ne hd12n.symm, upd_ne ht2.symm, hd22] at hn1; cases hn1), upd_ne hd12n.symm, upd_ne ht2.symm]
        exact hd22
      have hn11 : n1 ≠ d1 := fun e => by rw [e, upd_same] at hn1; cases hn1
      rw [upd_ne hn11] at hn1
      have hn1t : n1 ≠ t := fun e => by rw [e, upd_same] at hn1; cases hn1
      rw [upd_ne hn1t] at hn1
      have hn1x : n1 ≠ x := fun e => by rw [e, hx2] at hn1; cases hn1
      have hn12 : n1 ≠ d2 := fun e => by rw [e, hd22] at hn1; cases hn1
      have hLn : ∀ o, Vo (ps.take i) o → L o ≠ n1 := fun o ho e => by
        have := (hL o ho).2.1
        rw [e, hn1] at this; cases this
      have hoc : o ≠ some c := fun e => by
        obtain ⟨q', hq'⟩ := hoV c e
        exact hcn (List.mem_map.mpr ⟨_, hq', rfl⟩)
      have hkc : (optL o : Leaf) ≠ .text c := fun e => hoc (optL_inj e)
      have hLo : H2 (L o) = some (.lst (sVs (kidsOf (ps.take i) o))) := (hL o hoV).2.1
      have hnH : ∀ {b : Addr}, H2 b = none → b ≠ x → H b = none := fun {b} h n => by
        cases e : H b with
        | none => rfl
        | some u => rw [o2 b u (by simpa using n) e] at h; cases h
      have hLo5 : (upd (upd (upd (upd H2 t (.tup [nV i, .ref a])) d1 (.dK (ovs (ps.take i ++ [(c, o)])))) n1 (.lst [])) d2 (LfO P w d2 (putK kvs (.text c) (.ref n1)))) (L o) = some (.lst (sVs (kidsOf (ps.take i) o))) := by
        rw [upd_ne (hL2 o hoV), upd_ne (hLn o hoV), upd_ne (hL1 o hoV), upd_ne (hLt o hoV)]
        exact hLo
      refine ⟨_, rfl, x, _, dx, [("overs", .ref d1), ("kids", .ref d2)], _, rfl, ?_, T.cl_Tree, T.na_Tree_kids, rfl, _, rfl, d2, putK kvs (.text c) (.ref n1), optL o, .ref (L o), rfl, upd_same, (optL_V o).symm, ?_, tyL hLo5, _, rfl, L o, _, _, rfl, rfl, hLo5, ?_, ?_⟩
      · rw [upd_ne hd2x'.symm, upd_ne hn1x.symm, upd_ne hd1x'.symm, upd_ne htx.symm]
        exact hx2
      · rw [valV_put, if_neg hkc, (hL o hoV).1]
      · rw [sVs_len]
        exact big (Nat.le_trans kids_le (by rw [List.length_take]; omega))
      have htk : ps.take (i + 1) = ps.take i ++ [(c, o)] := take_at hpr
      have hko : ∀ q, kidsOf (ps.take (i + 1)) q = kidsOf (ps.take i) q ++ (if o = q then [c] else []) := fun q => kidsTo_succ (o := q) hpr
      have hVs : ∀ q, Vo (ps.take (i + 1)) q → q = some c ∨ Vo (ps.take i) q := by
        intro q hq
        by_cases e : q = some c
        · exact .inl e
        · refine .inr fun d hd => ?_
          obtain ⟨u, hu⟩ := hq d hd
          rw [htk] at hu
          rcases List.mem_append.mp hu with h | h
          · exact ⟨u, h⟩
          · have := List.mem_singleton.mp h
            injection this with e1 e2
            exact absurd (by rw [hd, e1]) e
      have hkn : kidsOf (ps.take i) (some c) = [] := by
        refine List.eq_nil_iff_forall_not_mem.mpr fun k hk => ?_
        have hk2 := mem_kids.mp hk
        obtain ⟨j, hj⟩ := List.mem_iff_getElem?.mp hk2
        rw [List.getElem?_take] at hj
        split at hj
        · rename_i hji
          obtain ⟨j2, hj2, q2, hq2⟩ := g.up j k c hj
          have := g.uniq hq2 hpr
          omega
        · cases hj
      refine ⟨putK kvs (.text c) (.ref n1), fun q => if q = some c then n1 else L q, _, _, _, _, rfl, ?_, ?_, ?_, fun q hq => ?_, fun q q' hq hq' e => ?_, ?_, ?_⟩
      · rw [upd_ne (hLx o hoV).symm, upd_ne hd2x'.symm, upd_ne hn1x.symm, upd_ne hd1x'.symm, upd_ne htx.symm]
        exact hx2
      · rw [upd_ne (hL1 o hoV).symm, upd_ne hd12n, upd_ne hn11.symm, upd_same, htk]
      · rw [upd_ne (hL2 o hoV).symm, upd_same]
        rfl
      · rcases hVs q hq with rfl | hq1
        · refine ⟨?_, ?_, ?_⟩
          · rw [valV_put]
            simp [optL]
          · simp only [if_true]
            rw [upd_ne (hLn o hoV).symm, upd_ne hn12, upd_same, hko, if_neg hoc, hkn]
            rfl
          · simp only [if_true]
            exact hnH hn1 hn1x
        · have hqc : q ≠ some c := fun e => by
            subst e
            obtain ⟨q', hq'⟩ := hq1 c rfl
            exact hcn (List.mem_map.mpr ⟨_, hq', rfl⟩)
          simp only [if_neg hqc]
          obtain ⟨h1, h2, h3⟩ := hL q hq1
          refine ⟨?_, ?_, h3⟩
          · rw [valV_put, if_neg (show ¬ optL q = Leaf.text c from fun e => hqc (optL_inj (b := some c) e)), h1]
          · by_cases e : o = q
            · subst e
              rw [upd_same, hko, if_pos rfl]
              simp [sVs]
            · rw [upd_ne (fun z => e (hinj _ _ hoV hq1 z.symm)), upd_ne (hL2 q hq1), upd_ne (hLn q hq1), upd_ne (hL1 q hq1), upd_ne (hLt q hq1), h2, hko, if_neg e, List.append_nil]
      · rcases hVs q hq with rfl | hq1
        · rcases hVs q' hq' with rfl | hq1'
          · rfl
          · simp only [if_true] at e
            split at e
            · rename_i h; exact h.symm
            · exact absurd e.symm (hLn q' hq1')
        · rcases hVs q' hq' with rfl | hq1'
          · simp only [if_true] at e
            split at e
            · rename_i h; exact h
            · exact absurd e (hLn q hq1)
          · have f1 : q ≠ some c := fun e => by
              subst e
              obtain ⟨q', hq'⟩ := hq1 c rfl
              exact hcn (List.mem_map.mpr ⟨_, hq', rfl⟩)
            have f2 : q' ≠ some c := fun e => by
              subst e
              obtain ⟨q', hq'⟩ := hq1' c rfl
              exact hcn (List.mem_map.mpr ⟨_, hq', rfl⟩)
            simp only [if_neg f1, if_neg f2] at e
            exact hinj _ _ hq1 hq1' e
      · exact Nat.le_trans (length_putK _ _ _) (by omega)
      · intro b u hb e
        have b1 : b ≠ x := by simpa using hb
        have b5 : b ≠ L o := fun z => by rw [z, (hL o hoV).2.2] at e; cases e
        have b3 : b ≠ n1 := fun z => by rw [z, hnH hn1 hn1x] at e; cases e
        have b4 : b ≠ t := fun z => by rw [z, hnH ht htx] at e; cases e
        have b6 : b ≠ d1 := fun z => by rw [z, hd1] at e; cases e
        have b7 : b ≠ d2 := fun z => by rw [z, hd2] at e; cases e
        rw [upd_ne b5, upd_ne b7, upd_ne b3, upd_ne b6, upd_ne b4]
        exact o2 b u hb e
    · rintro σ H2 ⟨kvs, L, v2, v3, v4, v5, rfl, hx2, hd12, hd22, hL, hinj, hkl, o2⟩
      rw [hlv, List.take_length] at hd12 hL
      have hd1x' : d1 ≠ x := fun e => by rw [e, hx2] at hd12; cases hd12
      have hd2x' : d2 ≠ x := fun e => by rw [e, hx2] at hd22; exact lf_ins hd22
      refine ⟨by decide, fun d3 hd3 => ⟨_, rfl, x, _, dx, [("overs", .ref d1), ("kids", .ref d2)], rfl, Same.new hd3 _ _ hx2, T.cl_Tree, T.na_Tree_order, by simp, ?_⟩⟩
      have hd3x : d3 ≠ x := fun e => by rw [e, hx2] at hd3; cases hd3
      have hd3H : H d3 = none := by
        cases e : H d3 with
        | none => rfl
        | some u => rw [o2 _ u (by simpa using hd3x) e] at hd3; cases hd3
      have s3 : ∀ b u, b ≠ x → H2 b = some u → (upd (upd H2 d3 (.lst [])) x (.ins T.C_Tree dx (putF "order" (.ref d3) [("overs", .ref d1), ("kids", .ref d2)]))) b = some u := fun b u hb e => by
        rw [upd_ne hb]
        exact Same.new hd3 _ _ e
      have hx3 : (upd (upd H2 d3 (.lst [])) x (.ins T.C_Tree dx (putF "order" (.ref d3) [("overs", .ref d1), ("kids", .ref d2)]))) x = some (.ins T.C_Tree dx (fT d1 d2 d3)) := upd_same
      have hd33 : (upd (upd H2 d3 (.lst [])) x (.ins T.C_Tree dx (putF "order" (.ref d3) [("overs", .ref d1), ("kids", .ref d2)]))) d3 = some (.lst []) := by rw [upd_ne hd3x]; exact upd_same
      have ho3 : Off [x] H (upd (upd H2 d3 (.lst [])) x (.ins T.C_Tree dx (putF "order" (.ref d3) [("overs", .ref d1), ("kids", .ref d2)]))) := fun b u hb e => s3 b u (by simpa using hb) (o2 b u hb e)
      have hd13 := s3 _ _ hd1x' hd12
      have hd23' := s3 _ _ hd2x' hd22
      have hL3 : ∀ o, Vo ps o → (upd (upd H2 d3 (.lst [])) x (.ins T.C_Tree dx (putF "order" (.ref d3) [("overs", .ref d1), ("kids", .ref d2)]))) (L o) = some (.lst (sVs (kidsOf ps o))) := fun o ho => s3 _ _ (fun e => by
        have := (hL o ho).2.1
        rw [e, hx2] at this; cases this) (hL o ho).2.1
      refine ⟨_, rfl, x, _, dx, fT d1 d2 d3, _, rfl, hx3, T.cl_Tree, T.na_Tree_kids, rfl, d2, kvs, .none, .ref (L none), rfl, s3 _ _ hd2x' hd22, rfl, (hL none fun c e => by cases e).1, L none, rfl, ⟨_, SqL.of (s3 _ _ (fun e => by
        have := (hL none fun c e => by cases e).2.1
        rw [e, hx2] at this; cases this) (hL none fun c e => by cases e).2.1)⟩, ?_⟩
      have hk3 : (upd (upd H2 d3 (.lst [])) x (.ins T.C_Tree dx (putF "order" (.ref d3) [("overs", .ref d1), ("kids", .ref d2)]))) (L none) = some (.lst (sVs (kidsOf ps none))) := s3 _ _ (fun e => by
        have := (hL none fun c e => by cases e).2.1
        rw [e, hx2] at this; cases this) (hL none fun c e => by cases e).2.1
      have hkd3 : L none ≠ d3 := fun e => by
        have := (hL none fun c e => by cases e).2.1
        rw [e, hd3] at this; cases this
      have hd23 : d2 ≠ d3 := fun e => by rw [e, hd3] at hd22; cases hd22
      have hd1d3 : d1 ≠ d3 := fun e => by rw [e, hd3] at hd12; cases hd12
      generalize (upd (upd H2 d3 (.lst [])) x (.ins T.C_Tree dx (putF "order" (.ref d3) [("overs", .ref d1), ("kids", .ref d2)]))) = H3 at hx3 hd33 ho3 hd13 hd23' hL3 hk3 ⊢
      have hKo : ∀ o, Vo ps o → L o ≠ d3 := fun o ho e => by
        have := (hL o ho).2.1
        rw [e, hd3] at this; cases this
      have hKat : ∀ H', Off [d3] H3 H' → KidsAt P w H' d2 ps := fun H' o => ⟨kvs, o _ _ (by simpa using hd23) hd23', fun q hq => ⟨L q, (hL q hq).1, o _ _ (by simpa using hKo q hq) (hL3 q hq)⟩⟩
      refine for_it (walk_list (K := K) (a := L none) (xs := sVs (kidsOf ps none))) (fun i σ H' => ∃ (v2 v3 v4 v5 : Option V), σ = [some (.ref x), some (.ref l), v2, v3, v4, v5] ∧ Off [d3] H3 H' ∧ H' d3 = some (.lst (sVs (((kidsOf ps none).take i).flatMap (ben ps 8)))) ∧ Off [x] H H') ?_ ?_ ?_ ?_
      · exact ⟨v2, v3, v4, v5, rfl, Off.refl, hd33, ho3⟩
      · rintro i σ H' hi ⟨v2, v3, v4, v5, _, o, _⟩
        exact SqL.of (o _ _ (by simpa using hkd3) hk3)
      · rintro i z σ H5 H4 hi ⟨v2, v3, v4, v5, rfl, o4, hd4, ho4⟩ ⟨rfl, hz⟩
        rw [sVs_get] at hz
        obtain ⟨k, hk2, rfl⟩ := Option.map_eq_some_iff.mp hz
        have hkm : k ∈ kidsOf ps none := List.mem_of_getElem? hk2
        have hx4 := o4 _ _ (by simpa using hd3x.symm) hx3
        refine ⟨_, rfl, x, _, dx, fT d1 d2 d3, _, rfl, hx4, T.cl_Tree, T.na_Tree_order, rfl, tyL hd4, _, rfl, x, _, dx, fT d1 d2 d3, _, rfl, hx4, T.cl_Tree, T.na_Tree_kids, rfl, _, rfl, d2, ps, k, rfl, hKat _ o4, g, ⟨_, mem_kids.mp hkm⟩, (rank_pos g (mem_kids.mp hkm)).2, fun r H5 hr0 s5 hr5 => ?_⟩
        have hwl : (((kidsOf ps none).take i).flatMap (ben ps 8)).length + (ben ps 8 k).length ≤ 8 := by
          have h1 := order_le g
          unfold order at h1
          have h2 := flat_sub (f := ben ps 8) (List.take_sublist (i + 1) (kidsOf ps none))
          rw [take_at hk2, List.flatMap_append] at h2
          simp only [List.length_append, List.flatMap_cons, List.flatMap_nil, List.append_nil] at h2 ⊢
          omega
        refine ⟨d3, r, _, _, rfl, rfl, s5 _ _ hd4, hr5, ?_, _, _, _, _, rfl, ?_, ?_, ?_⟩
        · rw [sVs_len, sVs_len]
          exact big' (by omega)
        · exact (o4.trans (Same.off s5)).trans (Off.put (by simp))
        · rw [upd_same, take_at hk2]
          simp [sVs]
        · intro b u hb e
          rw [upd_ne (fun z => by rw [z, hd3H] at e; cases e)]
          exact s5 _ _ (ho4 b u hb e)
      · rintro σ H4 ⟨v2, v3, v4, v5, rfl, o4, hd4, ho4⟩
        rw [sVs_len, List.take_length] at hd4
        exact q H4 ⟨dx, d1, d2, d3, o4 _ _ (by simpa using hd3x.symm) hx3, o4 _ _ (by simpa using hd1d3) hd13, hKat _ o4, hd4⟩ ho4
end
end Fb
set_option Elab.async false
set_option linter.all false
set_option maxRecDepth 100000
set_option maxHeartbeats 1000000
/-! Folds: what is read of them. -/
namespace Fb
open PySem PySem.Spec PyProof.Rows L2
structure FW (P : Program) (w : World) (C D : Addr) (H : Hp) (f : Addr) (ps : Prs Str) (B : List Bun) (tops : List Nat) : Prop where
  fd : FoldAt P w C D H f ps B tops
  g : GoodB ps B
  nm : NmP ps
  tp : PartsOk ps B none tops
  le : B.length ≤ 1000
theorem FW.mono {P : Program} {w : World} {C D : Addr} {H H' : Hp} {f : Addr} {ps : Prs Str} {B : List Bun} {tops : List Nat} (e : Same H H') (h : FW P w C D H f ps B tops) : FW P w C D H' f ps B tops := ⟨h.fd.mono e, h.g, h.nm, h.tp, h.le⟩
/-- all rows -/
abbrev AllR (B : List Bun) (tops : List Nat) : Rows := prod (tops.map (RR B))
/-- the bunches' numbers, columns from the end -/
def byc (ps : Prs Str) (B : List Bun) : List Nat := (order ps).reverse.flatMap (atc B)
theorem flat_pre {α β : Type} (f : α → List β) : ∀ {L : List α} {i : Nat} {m : β}, (L.flatMap f)[i]? = some m → ∃ (j : Nat) (c : α), L[j]? = some c ∧ m ∈ f c ∧ ∀ x ∈ (L.take j).flatMap f, x ∈ (L.flatMap f).take i
  | [], i, m, h => by simp at h
  | c :: L, i, m, h => by
    rw [List.flatMap_cons] at h
    by_cases hi : i < (f c).length
    · rw [List.getElem?_append_left hi] at h
      exact ⟨0, c, rfl, List.mem_of_getElem? h, fun x hx => by simp at hx⟩
    · rw [List.getElem?_append_right (by omega)] at h
      obtain ⟨j, d, h1, h2, h3⟩ := flat_pre f h
      refine ⟨j + 1, d, by simpa using h1, h2, fun x hx => ?_⟩
      rw [List.take_succ_cons, List.flatMap_cons] at hx
      rw [List.flatMap_cons, List.take_append]
      rcases List.mem_append.mp hx with hx | hx
      · exact List.mem_append_left _ (by rw [List.take_of_length_le (by omega)]; exact hx)
      · exact List.mem_append_right _ (h3 x hx)
theorem byc_parts {ps : Prs Str} {B : List Bun} (g : GoodB ps B) {i m : Nat} (h : (byc ps B)[i]? = some m) {b : Bun} (hb : B[m]? = some b) : ∀ e ∈ b.2, ∀ d ∈ e.2, d ∈ (byc ps B).take i := by
  obtain ⟨j, c, h1, h2, h3⟩ := flat_pre (atc B) h
  obtain ⟨b', hb', hc⟩ := mem_atc.mp h2
  rw [hb] at hb'
  cases hb'
  intro e he d hd
  obtain ⟨k, b2, hk, hb2, hk2⟩ := (g.parts m b hb e he).mem hd
  refine h3 d (List.mem_flatMap.mpr ⟨k, ?_, mem_atc.mpr ⟨b2, hb2, hk2⟩⟩)
  have hsp := split_at h1
  have h5 := congrArg List.reverse hsp
  rw [List.reverse_reverse, List.reverse_append, List.reverse_cons, List.append_assoc] at h5
  rw [hc] at hk
  have h6 := kid_behind g.gp (l1 := ((order ps).reverse.drop (j + 1)).reverse) (l2 := ((order ps).reverse.take j).reverse) (by exact h5) hk
  exact List.mem_reverse.mp h6
theorem byc_all {ps : Prs Str} {B : List Bun} (g : GoodB ps B) {n : Nat} {b : Bun} (hb : B[n]? = some b) : n ∈ byc ps B :=
  List.mem_flatMap.mpr ⟨b.1, List.mem_reverse.mpr (g.col n b hb), mem_atc.mpr ⟨b, hb, rfl⟩⟩
theorem byc_lt {ps : Prs Str} {B : List Bun} {n : Nat} (h : n ∈ byc ps B) : ∃ b, B[n]? = some b := by
  obtain ⟨c, _, h2⟩ := List.mem_flatMap.mp h
  obtain ⟨b, hb, _⟩ := mem_atc.mp h2
  exact ⟨b, hb⟩
theorem flat_bound {α β : Type} (f : α → List β) {M : Nat} : ∀ {L : List α}, (∀ c ∈ L, (f c).length ≤ M) → (L.flatMap f).length ≤ L.length * M
  | [], _ => by simp
  | c :: L, h => by
    rw [List.flatMap_cons, List.length_append, List.length_cons, Nat.succ_mul]
    have := h c List.mem_cons_self
    have := flat_bound f fun x hx => h x (List.mem_cons_of_mem c hx)
    omega
theorem byc_len {ps : Prs Str} {B : List Bun} (g : GoodP ps) : (byc ps B).length ≤ 8 * B.length := by
  have h1 := flat_bound (atc B) (M := B.length) (L := (order ps).reverse) fun c _ => atc_len
  have h2 := order_le g
  rw [List.length_reverse] at h1
  exact Nat.le_trans h1 (Nat.mul_le_mul_right _ h2)
/-- values of columns, as told by a dict -/
def Ass (kvs : List (Key × V)) (cs : List Str) (r : List Int) : Prop := ∀ p ∈ cs.zip r, valV kvs (Sum.inr p.1) = some (.int p.2)
theorem pieces {ps : Prs Str} {B : List Bun} (g : GoodB ps B) {kvs : List (Key × V)} : ∀ {ks : List Str} {ds : List Nat} {r : List Int}, ds.length = ks.length → (∀ (i d : Nat) (k : Str), ds[i]? = some d → ks[i]? = some k → ∃ b, B[d]? = some b ∧ b.1 = k) →
    (∀ k ∈ ks, ∃ q, (k, q) ∈ ps) → r ∈ prod (ds.map (RR B)) → Ass kvs (ks.flatMap (ben ps 8)) r → ∀ (i d : Nat), ds[i]? = some d → ∃ p b, p ∈ RR B d ∧ B[d]? = some b ∧ Ass kvs (ben ps 8 b.1) p
  | [], ds, r, hl, _, _, _, _ => fun i d h => by
    cases ds with
    | nil => simp at h
    | cons _ _ => simp at hl
  | k :: ks, [], r, hl, _, _, _, _ => by simp at hl
  | k :: ks, d :: ds, r, hl, hp, hk, hr, ha => fun i d' h => by
    obtain ⟨b, hb, hbk⟩ := hp 0 d k rfl rfl
    rw [List.map_cons] at hr
    obtain ⟨p, hpd, q, hq, rfl⟩ := mem_cross.mp hr
    have hw := RR_wd g hb p hpd
    rw [List.flatMap_cons] at ha
    have hlen : (ben ps 8 k).length = p.length := by rw [hw, hbk]; rfl
    have hz : (ben ps 8 k ++ ks.flatMap (ben ps 8)).zip (p ++ q) = (ben ps 8 k).zip p ++ (ks.flatMap (ben ps 8)).zip q := List.zip_append hlen
    cases i with
    | zero =>
      simp at h
      subst h
      refine ⟨p, b, hpd, hb, fun x hx => ha x ?_⟩
      rw [hz, ← hbk]
      exact List.mem_append_left _ hx
    | succ i =>
      refine pieces g (ks := ks) (ds := ds) (by simpa using hl) (fun i d k h1 h2 => hp (i + 1) d k (by simpa using h1) (by simpa using h2)) (fun x hx => hk x (List.mem_cons_of_mem _ hx)) hq (fun x hx => ha x ?_) i d' (by simpa using h)
      rw [hz]
      exact List.mem_append_right _ hx
theorem valV_mem {κ : Type} [DecidableEq κ] {k : κ} {v : V} : ∀ {kvs : List (κ × V)}, (kvs.map (·.1)).Nodup → (k, v) ∈ kvs → valV kvs k = some v
  | [], _, h => by cases h
  | p :: kvs, nd, h => by
    obtain ⟨n1, n2⟩ := List.nodup_cons.mp nd
    rcases List.mem_cons.mp h with e | h
    · subst e
      exact valV_pos rfl
    · refine (valV_neg fun e => n1 ?_).trans (valV_mem n2 h)
      show p.1 ∈ _
      rw [e]
      exact List.mem_map.mpr ⟨_, h, rfl⟩
section
variable {P : Program} {w : World} {K : PySem.W.Frag} {mg : Str → Option Value} {base : Heap}
def sp_by_columns (P : Program) (w : World) (C D : Addr) : Sp := fun vs H Q _ => ∃ (f : Addr) (ps : Prs Str) (B : List Bun) (tops : List Nat), vs = [.ref f] ∧ FW P w C D H f ps B tops ∧ BackL H Q (nVs (byc ps B))
theorem ok_by_columns (T : Txt K mg) : FnOk P w K mg base CX0 2 T.f_by_columns T.fd_by_columns ["fold"] (sp_by_columns P w T.C_Fold T.C_Tree) := by
  have G_Tree_columns : FnOk P w K mg base CX0 1 T.f_Tree_columns T.fd_Tree_columns ["self"] (sp_Tree_columns P w T.C_Tree) := ok_Tree_columns T
  refine T.F_by_columns.ok sc_by_columns (fun vs H Q E h => ?_) (fun cdv A outer s H vs Q E hr h => ?_)
  · obtain ⟨_, _, _, _, rfl, _⟩ := h
    rfl
  · obtain ⟨f, ps, B, tops, rfl, hW, q⟩ := h
    obtain ⟨dx, t, l, r, hf, hT, ⟨bv, hl, hP⟩, hr1⟩ := id hW.fd
    obtain ⟨dt, d1, d2, d3, ht, _⟩ := id hT
    have g := hW.g
    refine ⟨_, (pss_cons (ps_set (i := 1) sc_by_columns.nd rfl (Or.inl rfl) (pe_lst pa_nil))
    (pss_cons (ps_for PassesOwn.never (by rfl) (pi_reversed (by rfl) T.n_reversed (pa_cons (pe_meth0 (pe_fld (pv 0) rfl) T.cl_Tree T.mt_Tree_columns G_Tree_columns (hr.mono (by omega)) T.b_Tree_columns .nil pass0) pa_nil)) (pg_name (i := 2) sc_by_columns.nd rfl (Or.inr rfl)) (pss_one (ps_expr (pe_bm PySem.F.plainAttrs_list PySem.F.slot_list_extend PySem.F.type_list_extend mt_extend (pv 1) (pa_cons (pe_lc (own := [("number", 3), ("bunch", 4)]) (by rfl) sc_by_columns.nd (pi_enum (by rfl) T.n_enumerate (pa_cons (pe_fld (pv 0) rfl) pa_nil)) (blkOk_by (N := N_by_columns) (sc := defScope s_by_columns) (by decide +kernel)) (fun _ _ _ _ _ => (pg_tupK (K := K) (n := 2) (by rfl) (pgs_cons (pg_name (i := 3) sc_by_columns.nd rfl (Or.inl rfl)) (pgs_cons (pg_name (i := 4) sc_by_columns.nd rfl (Or.inl rfl)) pgs_nil)))) (fun _ _ _ _ _ => (pts_one (pt_cmpR op_eq (pe_ix (ix_tupK (K := K)) (pv 4) pe_int (fun _ _ => rfl)) (pv 2) (nomark _)))) (fun _ _ _ _ _ => (pv 3))) pa_nil)))))
    (pss_one (ps_ret (pv 1))))), ?_⟩
    refine ⟨by decide, fun lf hlf => ?_⟩
    have s0 : Same H (upd H lf (.lst [])) := Same.new hlf
    refine ⟨_, rfl, f, _, dx, _, _, rfl, s0 _ _ hf, T.cl_Fold, T.na_Fold_shape, rfl, t, dt, _, rfl, s0 _ _ ht, rfl, t, ps, rfl, hT.mono s0, fun lo H1 hlo0 s1 hlo => ?_⟩
    refine ⟨lo, _, rfl, SqL.of hlo, ?_⟩
    have hlolf : lo ≠ lf := fun e => by rw [e, upd_same] at hlo0; cases hlo0
    have hllf : l ≠ lf := fun e => by rw [e, hlf] at hl; cases hl
    have hbl : bv.length = B.length := Paired.length hP
    have hole := order_le g.gp
    refine for_it (walk_rev (K := K) (a := lo) (xs := sVs (order ps))) (fun i σ H' => ∃ (v2 v3 v4 : Option V), σ = [some (.ref f), some (.ref lf), v2, v3, v4] ∧ H' lf = some (.lst (nVs (((order ps).reverse.take i).flatMap (atc B)))) ∧ Off [lf] H1 H' ∧ Same H H') ?_ ?_ ?_ ?_
    · exact ⟨none, none, none, rfl, s1 _ _ upd_same, Off.refl, s0.trans s1⟩
    · rintro i σ H' hi ⟨v2, v3, v4, _, _, o, _⟩
      exact SqL.of (o _ _ (by simpa using hlolf) hlo)
    · rintro i x σ H3 H2 hi ⟨v2, v3, v4, rfl, hlf2, o2, s2⟩ ⟨rfl, hx⟩
      rw [sVs_get] at hx
      obtain ⟨c, hc, rfl⟩ := Option.map_eq_some_iff.mp hx
      rw [sVs_len] at hc hi
      have hcr : (order ps).reverse[i]? = some c := by rw [List.getElem?_reverse hi]; exact hc
      refine ⟨_, rfl, tyL hlf2, _, rfl, f, _, dx, _, _, rfl, s2 _ _ hf, T.cl_Fold, T.na_Fold_held, rfl, l, _, rfl, SqL.of (s2 _ _ hl), fun D hD => ?_⟩
      refine lc_fil (walk_enum (K := K) (a := l) (xs := bv)) (isC B c) nV hD (by rw [hbl]; have := hW.le; omega) (fun H' s => SqL.of (s _ _ (s2 _ _ hl))) (fun m x H7 H8 hm s7 y => ?_) fun H7 s7 hD7 => ?_
      · obtain ⟨t1, y1, z, rfl, ht1, rfl, hy, hz⟩ := y
        cases hy
        obtain ⟨b, hbm, qa, le, rfl, hqa, _⟩ := Paired.ofL hP hz
        refine ⟨Same.new ht1, fun Q' F hq hf => ⟨t1, _, rfl, SqT.of upd_same, rfl, _, _, rfl, _, _, rfl, rfl, rfl, ?_⟩⟩
        refine ⟨_, rfl, qa, _, _, _, rfl, rfl, SqT.of (Same.new ht1 _ _ (s7 _ _ (s2 _ _ hqa))), rfl, _, rfl, rfl, _, rfl, ?_⟩
        have e2 : decide (V.str b.1 = V.str c) = isC B c m := by
          unfold isC
          rw [hbm]
          simp
        rw [e2]
        cases e : isC B c m with
        | true => exact ⟨_, rfl, hq e _ (Same.refl _)⟩
        | false => exact hf e _ (Same.refl _)
      · have eD : H7 D = some (.lst (nVs (atc B c))) := by rw [hD7, hbl]; rfl
        refine ⟨lf, D, _, _, rfl, rfl, s7 _ _ hlf2, eD, ?_, _, _, _, rfl, ?_, ?_, ?_⟩
        · rw [nVs_len, nVs_len]
          have h1 := flat_bound (atc B) (M := B.length) (L := (order ps).reverse.take i) fun c _ => atc_len
          have h2 : ((order ps).reverse.take i).length ≤ 8 := by rw [List.length_take, List.length_reverse]; omega
          have h3 := atc_len (B := B) (c := c)
          have h4 := hW.le
          have h5 := Nat.mul_le_mul_right B.length h2
          exact big' (by omega)
        · rw [upd_same, take_at hcr]
          simp [nVs]
        · exact (o2.trans (Same.off s7)).trans (Off.put (by simp))
        · intro b u e
          rw [upd_ne (fun z => by rw [z, hlf] at e; cases e)]
          exact s7 _ _ (s2 _ _ e)
    · rintro σ H2 ⟨v2, v3, v4, rfl, hlf2, o2, s2⟩
      refine ⟨_, rfl, q lf H2 hlf s2 ?_⟩
      rw [hlf2, sVs_len]
      unfold byc
      rw [List.take_of_length_le (by rw [List.length_reverse]; exact Nat.le_refl _)]
def sp_counts_of (P : Program) (w : World) (C D : Addr) : Sp := fun vs H Q _ => ∃ (f : Addr) (ps : Prs Str) (B : List Bun) (tops : List Nat), vs = [.ref f] ∧ FW P w C D H f ps B tops ∧ BackL H Q (nVs (cnts B))
theorem ok_counts_of (T : Txt K mg) : FnOk P w K mg base CX0 3 T.f_counts_of T.fd_counts_of ["fold"] (sp_counts_of P w T.C_Fold T.C_Tree) := by
  have G_by_columns : FnOk P w K mg base CX0 2 T.f_by_columns T.fd_by_columns ["fold"] (sp_by_columns P w T.C_Fold T.C_Tree) := ok_by_columns T
  have G_product_at : FnOk P w K mg base CX0 1 T.f_product_at T.fd_product_at ["numbers", "parts"] sp_product_at := ok_product_at T
  refine T.F_counts_of.ok sc_counts_of (fun vs H Q E h => ?_) (fun cdv A outer s H vs Q E hr h => ?_)
  · obtain ⟨_, _, _, _, rfl, _⟩ := h
    rfl
  · obtain ⟨f, ps, B, tops, rfl, hW, q⟩ := h
    obtain ⟨dx, t, l, r, hf, hT, hB, hr1⟩ := id hW.fd
    obtain ⟨bv, hl, hP⟩ := id hB
    have g := hW.g
    have hbl : bv.length = B.length := Paired.length hP
    have hle := hW.le
    refine ⟨_, (pss_cons (ps_set (i := 1) sc_counts_of.nd rfl (Or.inr rfl) (pe_op op_rep (pe_lst (pa_cons pe_int pa_nil)) (pe_callB call_len_seq (by rfl) T.n_len PySem.boot_len (pa_cons (pe_fld (pv 0) rfl) pa_nil))))
    (pss_cons (ps_for PassesOwn.never (by rfl) (pi_list (pe_call G_by_columns (hr.mono (by omega)) (by rfl) T.m_by_columns T.F_by_columns.kp T.b_by_columns .nil pass0 (pa_cons (pv 0) pa_nil))) (pg_name (i := 2) sc_counts_of.nd rfl (Or.inl rfl)) (pss_one (ps_asg (pe_callB (cr_sum (by rfl)) (by rfl) T.n_sum (by decide +kernel) (pa_cons (pe_lc (own := [("value", 3), ("parts", 4)]) (by rfl) sc_counts_of.nd (pi_list (pe_ix ix_tup (pe_ix ix_list (pe_fld (pv 0) rfl) (pv 2) (fun _ _ => rfl)) pe_int (fun _ _ => rfl))) (blkOk_by (N := N_counts_of) (sc := defScope s_counts_of) (by decide +kernel)) (fun _ _ _ _ _ => (pg_tupK (K := K) (n := 2) (by rfl) (pgs_cons (pg_name (i := 3) sc_counts_of.nd rfl (Or.inl rfl)) (pgs_cons (pg_name (i := 4) sc_counts_of.nd rfl (Or.inl rfl)) pgs_nil)))) (fun _ _ _ _ _ => pts_nil) (fun _ _ _ _ _ => (pe_call G_product_at (hr.mono (by omega)) (by rfl) T.m_product_at T.F_product_at.kp T.b_product_at .nil pass0 (pa_cons (pv 1) (pa_cons (pv 4) pa_nil))))) pa_nil)) (pg_sub (pv 1) (pv 2) set_list))))
    (pss_one (ps_ret (pv 1))))), ?_⟩
    refine ⟨big' (by simp), fun z0 hz0 => ?_⟩
    have s0 : Same H (upd H z0 (.lst [V.int 0])) := Same.new hz0
    refine ⟨_, rfl, f, _, dx, _, _, rfl, s0 _ _ hf, T.cl_Fold, T.na_Fold_held, rfl, l, bv, rfl, .inl (SqL.of (s0 _ _ hl)), z0, _, _, rfl, rfl, upd_same, by omega, by omega, ?_, fun lf hlf => ?_⟩
    · exact big' (by simp; omega)
    have e0 : (List.replicate ((bv.length : Nat) : Int).toNat [V.int 0]).flatten = nVs (List.replicate B.length 0) := by
      rw [Int.toNat_natCast, hbl, List.flatten_replicate_singleton]
      simp [nVs]
    rw [e0]
    have s1 : Same H (upd (upd H z0 (.lst [V.int 0])) lf (.lst (nVs (List.replicate B.length 0)))) := s0.trans (Same.new hlf)
    have hlfH : H lf = none := Same.fresh s0 hlf
    have hlf1 : (upd (upd H z0 (.lst [V.int 0])) lf (.lst (nVs (List.replicate B.length 0)))) lf = some (.lst (nVs (List.replicate B.length 0))) := upd_same
    generalize (upd (upd H z0 (.lst [V.int 0])) lf (.lst (nVs (List.replicate B.length 0)))) = H1 at s1 hlf1 ⊢
    refine ⟨_, rfl, f, ps, B, tops, rfl, hW.mono s1, fun ln H2 hln0 s2 hln => ⟨ln, rfl, ⟨_, SqL.of hln⟩, ?_⟩⟩
    have hlnlf : ln ≠ lf := fun e => by rw [e, hlf1] at hln0; cases hln0
    refine for_it (walk_list (K := K) (a := ln) (xs := nVs (byc ps B))) (fun i σ H' => ∃ (xs : List Nat) (v2 v3 v4 : Option V), σ = [some (.ref f), some (.ref lf), v2, v3, v4] ∧ H' lf = some (.lst (nVs xs)) ∧ xs.length = B.length ∧ (∀ n ∈ (byc ps B).take i, xs.getD n 0 = cnt B n) ∧ Off [lf] H2 H' ∧ Same H H') ?_ ?_ ?_ ?_
    · exact ⟨List.replicate B.length 0, none, none, none, rfl, s2 _ _ hlf1, by simp, fun n h => by simp at h, Off.refl, s1.trans s2⟩
    · rintro i σ H' hi ⟨xs, v2, v3, v4, _, _, _, _, o, _⟩
      exact SqL.of (o _ _ (by simpa using hlnlf) hln)
    · rintro i x σ H4 H3 hi ⟨xs, v2, v3, v4, rfl, hlf3, hxl, hxs, o3, s3⟩ ⟨rfl, hx⟩
      obtain ⟨m, hm, rfl⟩ := nVs_some hx
      obtain ⟨b, hb⟩ := byc_lt (List.mem_of_getElem? hm)
      have hmB : m < B.length := (List.getElem?_eq_some_iff.mp hb).1
      obtain ⟨bv', ta, le, hbv, hbl', hat, hta, ev, hev, hE⟩ := (hB.mono s3).at hb
      have hel := Paired.length hE
      have hel2 := g.le m b hb
      refine ⟨_, rfl, f, _, dx, _, _, rfl, s3 _ _ hf, T.cl_Fold, T.na_Fold_held, rfl, _, rfl, l, _, _, _, rfl, rfl, SqL.of hbv, atI_nat hat, ta, _, _, _, rfl, rfl, SqT.of hta, rfl, le, rfl, ⟨ev, SqL.of hev⟩, fun D hD => ?_⟩
      refine lc_map (walk_list (K := K) (a := le) (xs := ev)) (fun k => nV ((b.2[k]?).elim 0 fun e => prodN (cnt B) e.2)) hD (by omega) (fun H' s => SqL.of (s _ _ hev)) (fun k x H5 H6 hk s5 y => ?_) fun H5 s5 hD5 => ?_
      · obtain ⟨rfl, hx⟩ := y
        obtain ⟨e, he, a1, b1, rfl, h1, h2⟩ := Paired.ofL hE hx
        have hem := List.mem_of_getElem? he
        refine ⟨Same.refl _, fun Q' F hq => ⟨a1, _, rfl, SqT.of (s5 _ _ h1), rfl, _, _, rfl, _, _, rfl, rfl, rfl, yesI ?_⟩⟩
        refine ⟨_, rfl, _, rfl, lf, b1, _, e.2, rfl, s5 _ _ hlf3, s5 _ _ h2, fun p hp => ?_, ?_⟩
        · obtain ⟨_, b', _, hb', _⟩ := (g.parts m b hb e hem).mem hp
          rw [hxs p (byc_parts g hm hb e hem p hp), hxl]
          exact ⟨(List.getElem?_eq_some_iff.mp hb').1, pow60 (cnt_le g hb').2⟩
        · have := hq _ (Same.refl _)
          rw [he] at this
          have e2 : prodN (fun p => xs.getD p 0) e.2 = prodN (cnt B) e.2 := prodN_ext fun p hp => hxs p (byc_parts g hm hb e hem p hp)
          rw [e2]
          exact this
      · have e4 : H5 D = some (.lst ((b.2.map fun e => ((prodN (cnt B) e.2 : Nat) : Int)).map V.int)) := by
          rw [hD5, hel, range_map_ext (l := b.2) (h := fun e => nV (prodN (cnt B) e.2)) fun i x e => by rw [e]; rfl, List.map_map]
          rfl
        refine ⟨D, _, rfl, SqL.of e4, _, rfl, _, rfl, lf, _, (m : Int), m, rfl, rfl, s5 _ _ hlf3, ?_, ?_⟩
        · unfold ixN
          rw [if_pos (by omega), if_pos (by rw [nVs_len, hxl]; omega)]
          simp
        rw [cnt_sum g hb]
        refine ⟨xs.set m (cnt B m), _, _, _, rfl, ?_, by simpa using hxl, fun n hn => ?_, (o3.trans (Same.off s5)).trans (Off.put (by simp)), ?_⟩
        · rw [upd_same]
          unfold nVs
          rw [List.map_set]
        · rw [List.getD_eq_getElem?_getD, List.getElem?_set]
          by_cases e : m = n
          · subst e
            rw [if_pos rfl, if_pos (by omega)]
            rfl
          · rw [if_neg e, ← List.getD_eq_getElem?_getD]
            refine hxs n ?_
            rw [take_at hm] at hn
            rcases List.mem_append.mp hn with hn | hn
            · exact hn
            · exact absurd (List.mem_singleton.mp hn).symm e
        · intro b u e
          rw [upd_ne (fun z => by rw [z, hlfH] at e; cases e)]
          exact s5 _ _ (s3 _ _ e)
    · rintro σ H3 ⟨xs, v2, v3, v4, rfl, hlf3, hxl, hxs, o3, s3⟩
      rw [nVs_len, List.take_length] at hxs
      refine ⟨_, rfl, q lf H3 hlfH s3 ?_⟩
      rw [hlf3]
      congr 3
      apply List.ext_getElem?
      intro n
      by_cases hn : n < B.length
      · rw [cnts_get hn, getD_some (show n < xs.length by omega), hxs n (byc_all g (List.getElem?_eq_getElem hn))]
      · rw [List.getElem?_eq_none (by omega), List.getElem?_eq_none (by rw [cnts_len]; omega)]
end
end Fb
set_option Elab.async false
set_option linter.all false
set_option maxRecDepth 100000
set_option maxHeartbeats 1000000
/-! Folds: the methods; whether a row is held. -/
namespace Fb
open PySem PySem.Spec PyProof.Rows L2
section
variable {P : Program} {w : World} {K : PySem.W.Frag} {mg : Str → Option Value} {base : Heap}
theorem bnd_want2 (T : Txt K mg) : ∃ ds, Vals [V.int 0] ds ∧ Binds K T.fd_want_row ["thing", "many", "at"] ds := T.F_want_row.binds1 2 0 (by simp) rfl fun T kV doc pm an cdv ct us its hu hi => by
  match us, hu with
  | [a, b], _ => match its, hi with
    | [c], _ => exact ⟨_, rfl, rfl⟩
theorem bnd_want3 (T : Txt K mg) : ∃ ds, Vals [] ds ∧ Binds K T.fd_want_row ["thing", "many", "at"] ds := T.F_want_row.binds1 3 1 (by simp) rfl fun T kV doc pm an cdv ct us its hu hi => by
  match us, hu with
  | [a, b, d], _ => match its, hi with
    | [c], _ => exact ⟨_, rfl, rfl⟩
theorem bnd_children1 (T : Txt K mg) : ∃ ds, Vals [V.non] ds ∧ Binds K T.fd_Tree_children ["self", "column"] ds := T.F_Tree_children.binds1 1 0 (by simp) rfl fun T kV doc pm an cdv ct us its hu hi => by
  match us, hu with
  | [a], _ => match its, hi with
    | [c], _ => exact ⟨_, rfl, rfl⟩
theorem bnd_children2 (T : Txt K mg) : ∃ ds, Vals [] ds ∧ Binds K T.fd_Tree_children ["self", "column"] ds := T.F_Tree_children.binds1 2 1 (by simp) rfl fun T kV doc pm an cdv ct us its hu hi => by
  match us, hu with
  | [a, b], _ => match its, hi with
    | [c], _ => exact ⟨_, rfl, rfl⟩
theorem bnd_step2 (T : Txt K mg) : ∃ ds, Vals [] ds ∧ Binds K T.fd_Walker_step ["self", "many"] ds := T.F_Walker_step.binds1 2 1 (by simp) rfl fun T kV doc pm an cdv ct us its hu hi => by
  match us, hu with
  | [a, b], _ => match its, hi with
    | [c], _ => exact ⟨_, rfl, rfl⟩
theorem bnd_back2 (T : Txt K mg) : ∃ ds, Vals [] ds ∧ Binds K T.fd_Walker_back ["self", "many"] ds := T.F_Walker_back.binds1 2 1 (by simp) rfl fun T kV doc pm an cdv ct us its hu hi => by
  match us, hu with
  | [a, b], _ => match its, hi with
    | [c], _ => exact ⟨_, rfl, rfl⟩
/-! ### the methods of a fold -/
def sp_Fold_init (C : Addr) : Sp := fun vs H Q _ => ∃ (x dx : Addr) (a b c : V), vs = [.ref x, a, b, c] ∧ H x = some (.ins C dx []) ∧ Q .non (upd (upd (upd H x (.ins C dx [("shape", a)])) x (.ins C dx [("shape", a), ("held", b)])) x (.ins C dx [("shape", a), ("held", b), ("roots", c)]))
theorem ok_Fold_init (T : Txt K mg) : FnOk P w K mg base CX0 1 T.f_Fold_init T.fd_Fold_init ["self", "tree", "bunches", "tops"] (sp_Fold_init T.C_Fold) := by
  refine T.F_Fold_init.ok sc_Fold_init (fun vs H Q E h => ?_) (fun cdv A outer s H vs Q E hr h => ?_)
  · obtain ⟨_, _, _, _, _, rfl, _⟩ := h
    rfl
  · obtain ⟨x, dx, a, b, c, rfl, hx, q⟩ := h
    refine ⟨_, (pss_cons (ps_fld (pv 0) (pv 1) rfl)
    (pss_cons (ps_fld (pv 0) (pv 2) rfl)
    (pss_one (ps_fld (pv 0) (pv 3) rfl)))), ?_⟩
    refine ⟨_, rfl, _, rfl, x, _, dx, [], rfl, hx, T.cl_Fold, T.na_Fold_shape, by simp, ?_⟩
    refine ⟨_, rfl, _, rfl, x, _, dx, [("shape", a)], rfl, upd_same, T.cl_Fold, T.na_Fold_held, by simp, ?_⟩
    exact ⟨_, rfl, _, rfl, x, _, dx, [("shape", a), ("held", b)], rfl, upd_same, T.cl_Fold, T.na_Fold_roots, by simp, q⟩
def sp_Fold_tree (C : Addr) : Sp := fun vs H Q _ => ∃ (f dx t l : Addr) (r : V), vs = [.ref f] ∧ H f = some (.ins C dx [("shape", .ref t), ("held", .ref l), ("roots", r)]) ∧ Q (.ref t) H
theorem ok_Fold_tree (T : Txt K mg) : FnOk P w K mg base CX0 1 T.f_Fold_tree T.fd_Fold_tree ["self"] (sp_Fold_tree T.C_Fold) := by
  refine T.F_Fold_tree.ok sc_Fold_tree (fun vs H Q E h => ?_) (fun cdv A outer s H vs Q E hr h => ?_)
  · obtain ⟨_, _, _, _, _, rfl, _⟩ := h
    rfl
  · obtain ⟨f, dx, t, l, r, rfl, hf, q⟩ := h
    refine ⟨_, (pss_one (ps_ret (pe_fld (pv 0) rfl))), ?_⟩
    exact ⟨_, rfl, f, _, dx, _, _, rfl, hf, T.cl_Fold, T.na_Fold_shape, rfl, q⟩
def sp_Fold_tops (C : Addr) : Sp := fun vs H Q _ => ∃ (f dx t l r : Addr), vs = [.ref f] ∧ H f = some (.ins C dx (fF t l r)) ∧ Q (.ref r) H
theorem ok_Fold_tops (T : Txt K mg) : FnOk P w K mg base CX0 1 T.f_Fold_tops T.fd_Fold_tops ["self"] (sp_Fold_tops T.C_Fold) := by
  refine T.F_Fold_tops.ok sc_Fold_tops (fun vs H Q E h => ?_) (fun cdv A outer s H vs Q E hr h => ?_)
  · obtain ⟨_, _, _, _, _, rfl, _⟩ := h
    rfl
  · obtain ⟨f, dx, t, l, r, rfl, hf, q⟩ := h
    refine ⟨_, (pss_one (ps_ret (pe_fld (pv 0) rfl))), ?_⟩
    exact ⟨_, rfl, f, _, dx, _, _, rfl, hf, T.cl_Fold, T.na_Fold_roots, rfl, q⟩
theorem parts_lt {ps : Prs Str} {B : List Bun} (g : GoodB ps B) {o : Option Str} {ds : List Nat} (h : PartsOk ps B o ds) : ∀ p ∈ ds, p < (cnts B).length ∧ (cnts B).getD p 0 < 2 ^ 60 := fun p hp => by
  obtain ⟨_, b', _, hb', _⟩ := h.mem hp
  have hpi := (List.getElem?_eq_some_iff.mp hb').1
  rw [cnts_len, cnts_at hpi]
  exact ⟨hpi, pow60 (cnt_le g hb').2⟩
theorem parts_prod {ps : Prs Str} {B : List Bun} {o : Option Str} {ds : List Nat} (h : PartsOk ps B o ds) : prodN (fun p => (cnts B).getD p 0) ds = prodN (cnt B) ds := prodN_ext fun p hp => by
  obtain ⟨_, b', _, hb', _⟩ := h.mem hp
  exact cnts_at (List.getElem?_eq_some_iff.mp hb').1
def sp_Fold_count (P : Program) (w : World) (C D : Addr) : Sp := fun vs H Q _ => ∃ (f : Addr) (ps : Prs Str) (B : List Bun) (tops : List Nat), vs = [.ref f] ∧ FW P w C D H f ps B tops ∧ BackV H Q (nV (AllR B tops).length)
theorem ok_Fold_count (T : Txt K mg) : FnOk P w K mg base CX0 4 T.f_Fold_count T.fd_Fold_count ["self"] (sp_Fold_count P w T.C_Fold T.C_Tree) := by
  have G_counts_of : FnOk P w K mg base CX0 3 T.f_counts_of T.fd_counts_of ["fold"] (sp_counts_of P w T.C_Fold T.C_Tree) := ok_counts_of T
  have G_product_at : FnOk P w K mg base CX0 1 T.f_product_at T.fd_product_at ["numbers", "parts"] sp_product_at := ok_product_at T
  refine T.F_Fold_count.ok sc_Fold_count (fun vs H Q E h => ?_) (fun cdv A outer s H vs Q E hr h => ?_)
  · obtain ⟨_, _, _, _, rfl, _⟩ := h
    rfl
  · obtain ⟨f, ps, B, tops, rfl, hW, q⟩ := h
    obtain ⟨dx, t, l, r, hf, hT, hB, hr1⟩ := id hW.fd
    refine ⟨_, (pss_cons (ps_if (pt_cmpR op_isN (pe_fld (pv 0) rfl) pe_non (nomark _)) (pss_one (ps_ret pe_int)) pss_nil)
    (pss_one (ps_ret (pe_call G_product_at (hr.mono (by omega)) (by rfl) T.m_product_at T.F_product_at.kp T.b_product_at .nil pass0 (pa_cons (pe_call G_counts_of (hr.mono (by omega)) (by rfl) T.m_counts_of T.F_counts_of.kp T.b_counts_of .nil pass0 (pa_cons (pv 0) pa_nil)) (pa_cons (pe_fld (pv 0) rfl) pa_nil)))))), ?_⟩
    refine ⟨_, rfl, f, _, dx, _, _, rfl, hf, T.cl_Fold, T.na_Fold_roots, rfl, rfl, _, rfl, ?_⟩
    refine ⟨_, rfl, f, ps, B, tops, rfl, hW, fun lm H1 hm0 s1 hm => ?_⟩
    refine ⟨_, rfl, f, _, dx, _, _, rfl, s1 _ _ hf, T.cl_Fold, T.na_Fold_roots, rfl, lm, r, _, tops, rfl, hm, s1 _ _ hr1, parts_lt hW.g hW.tp, ?_⟩
    rw [parts_prod hW.tp]
    have := q H1 s1
    rw [prod_len] at this
    exact this
/-! ### the parts behind a value -/
def sp_parts_at (P : Program) (w : World) (C D : Addr) : Sp := fun vs H Q _ => ∃ (f : Addr) (ps : Prs Str) (B : List Bun) (tops : List Nat) (n : Nat) (b : Bun) (e : Ent), vs = [.ref f, nV n, .int e.1] ∧ FW P w C D H f ps B tops ∧ B[n]? = some b ∧ e ∈ b.2 ∧ ∀ q, NT H q e.2 → Q (.ref q) H
theorem ok_parts_at (T : Txt K mg) : FnOk P w K mg base CX0 1 T.f_parts_at T.fd_parts_at ["fold", "number", "value"] (sp_parts_at P w T.C_Fold T.C_Tree) := by
  refine T.F_parts_at.ok sc_parts_at (fun vs H Q E h => ?_) (fun cdv A outer s H vs Q E hr h => ?_)
  · obtain ⟨_, _, _, _, _, _, _, rfl, _⟩ := h
    rfl
  · obtain ⟨f, ps, B, tops, n, b, e, rfl, hW, hb, he, q⟩ := h
    obtain ⟨dx, t, l, r, hf, hT, hB, hr1⟩ := id hW.fd
    obtain ⟨bv, ta, le, hbv, hbl, hat, hta, ev, hev, hE⟩ := hB.at hb
    obtain ⟨ei, hei⟩ := List.mem_iff_getElem?.mp he
    refine ⟨_, (pss_cons (ps_for PassesOwn.never (by rfl) (pi_list (pe_ix ix_tup (pe_ix ix_list (pe_fld (pv 0) rfl) (pv 1) (fun _ _ => rfl)) pe_int (fun _ _ => rfl))) (pg_tup (by rfl) (pgs_cons (pg_name (i := 3) sc_parts_at.nd rfl (Or.inl rfl)) (pgs_cons (pg_name (i := 4) sc_parts_at.nd rfl (Or.inl rfl)) pgs_nil))) (pss_one (ps_if (pt_cmpR op_eq (pv 3) (pv 2) (nomark _)) (pss_one (ps_ret (pv 4))) pss_nil)))
    (pss_one (ps_ret pe_non))), ?_⟩
    refine ⟨_, rfl, f, _, dx, _, _, rfl, hf, T.cl_Fold, T.na_Fold_held, rfl, _, rfl, l, _, _, _, rfl, rfl, SqL.of hbv, atI_nat hat, ta, _, _, _, rfl, rfl, SqT.of hta, rfl, le, rfl, ⟨ev, SqL.of hev⟩, ?_⟩
    have hel := Paired.length hE
    refine for_it (walk_list (K := K) (a := le) (xs := ev)) (fun i σ H' => ∃ (v3 v4 : Option V), σ = [some (.ref f), some (nV n), some (.int e.1), v3, v4] ∧ H' = H ∧ i ≤ ei) ?_ ?_ ?_ ?_
    · exact ⟨none, none, rfl, rfl, Nat.zero_le _⟩
    · rintro i σ H' hi ⟨v3, v4, _, rfl, _⟩
      exact SqL.of hev
    · rintro i x σ H3 H2 hi ⟨v3, v4, rfl, rfl, hie⟩ ⟨rfl, hx⟩
      obtain ⟨x, hx2, a1, b1, rfl, h1, h2⟩ := Paired.ofL hE hx
      refine ⟨a1, _, rfl, SqT.of h1, rfl, _, _, rfl, _, _, rfl, rfl, ?_⟩
      refine ⟨_, rfl, _, rfl, rfl, _, rfl, ?_⟩
      by_cases e1 : x.1 = e.1
      · refine iteD (by rw [e1]) ?_
        have hxe : x = e := by
          have hup := hW.g.up n b hb
          have nd := upe_nodup hup
          have k1 : (b.2.map (·.1))[i]? = some x.1 := by rw [List.getElem?_map, hx2]; rfl
          have k2 : (b.2.map (·.1))[ei]? = some x.1 := by rw [List.getElem?_map, hei, e1]; rfl
          obtain ⟨a1, c1⟩ := List.getElem?_eq_some_iff.mp k1
          obtain ⟨a2, c2⟩ := List.getElem?_eq_some_iff.mp k2
          have := (List.getElem_inj (h₀ := a1) (h₁ := a2) nd).mp (c1.trans c2.symm)
          subst this
          rw [hei] at hx2
          exact (Option.some.inj hx2).symm
        subst hxe
        exact ⟨_, rfl, q b1 h2⟩
      · refine iteDn (fun z => e1 (by injection z)) ?_
        refine ⟨_, _, rfl, rfl, ?_⟩
        rcases Nat.lt_or_ge i ei with h | h
        · exact h
        · have : i = ei := by omega
          subst this
          rw [hei] at hx2
          exact absurd (by rw [← Option.some.inj hx2]) e1
    · rintro σ H2 ⟨v3, v4, rfl, rfl, hie⟩
      have := (List.getElem?_eq_some_iff.mp hei).1
      omega
/-! ### whether a bunch has a row -/
def sp_holds (P : Program) (w : World) (C D : Addr) (n : Nat) : Sp := fun vs H Q _ => ∃ (f d : Addr) (ps : Prs Str) (B : List Bun) (tops : List Nat) (m : Nat) (b : Bun) (kvs : List (Key × V)) (r : List Int), vs = [.ref f, nV m, .ref d] ∧ FW P w C D H f ps B tops ∧ B[m]? = some b ∧ rankP ps b.1 ≤ n ∧ H d = some (.dK kvs) ∧ r ∈ RR B m ∧ Ass kvs (ben ps 8 b.1) r ∧ BackV H Q (.bl true)
theorem ok_holds (T : Txt K mg) : ∀ n, FnOk P w K mg base CX0 (n + 2) T.f_holds T.fd_holds ["fold", "number", "values"] (sp_holds P w T.C_Fold T.C_Tree n) := by
  have G_parts_at : FnOk P w K mg base CX0 1 T.f_parts_at T.fd_parts_at ["fold", "number", "value"] (sp_parts_at P w T.C_Fold T.C_Tree) := ok_parts_at T
  intro n
  induction n with
  | zero =>
    refine T.F_holds.ok sc_holds (fun vs H Q E h => ?_) (fun cdv A outer s H vs Q E hr h => ?_)
    · obtain ⟨_, _, _, _, _, _, _, _, _, rfl, _⟩ := h
      rfl
    · obtain ⟨f, d, ps, B, tops, m, b, kvs, r, rfl, hW, hb, hk, _⟩ := h
      have := (rank_le hW.g hb).1
      omega
  | succ n ih =>
    have G_holds := ih
    refine T.F_holds.ok sc_holds (fun vs H Q E h => ?_) (fun cdv A outer s H vs Q E hr h => ?_)
    · obtain ⟨_, _, _, _, _, _, _, _, _, rfl, _⟩ := h
      rfl
    · obtain ⟨f, d, ps, B, tops, m, b, kvs, r, rfl, hW, hb, hk, hd, hrr, ha, q⟩ := h
      have hu := hu_of hr
      obtain ⟨dx, t, l, r1, hf, hT, hB, hr1⟩ := id hW.fd
      obtain ⟨bv, ta, le, hbv, hbl, hat, hta, ev, hev, hE⟩ := hB.at hb
      have g := hW.g
      have hcn := order_names (g.col m b hb)
      have hrr2 := hrr
      rw [RR_eq g hb] at hrr2
      obtain ⟨e, he, hre⟩ := mem_bun.mp hrr2
      obtain ⟨rest, rfl, hrest⟩ := ent_head hre
      have hpo := g.parts m b hb e he
      rw [ben_eq g.gp hcn] at ha
      have ha0 : valV kvs (Sum.inr b.1) = some (.int e.1) := ha (b.1, e.1) (by simp)
      have har : Ass kvs ((kidsOf ps (some b.1)).flatMap (ben ps 8)) rest := fun x hx => ha x (by simp [hx])
      have hpc := pieces g hpo.1 hpo.2 (fun k hk => ⟨_, mem_kids.mp hk⟩) hrest har
      refine ⟨_, (pss_cons (ps_set (i := 3) sc_holds.nd rfl (Or.inl rfl) (pe_call G_parts_at (hr.mono (by omega)) (by rfl) T.m_parts_at T.F_parts_at.kp T.b_parts_at .nil pass0 (pa_cons (pv 0) (pa_cons (pv 1) (pa_cons (pe_dget hu (pv 2) (pe_ix ix_tup (pe_ix ix_list (pe_fld (pv 0) rfl) (pv 1) (fun _ _ => rfl)) pe_int (fun _ _ => rfl)) (fun _ _ => rfl)) pa_nil)))))
    (pss_one (ps_ret (pe_and (pe_cmpR op_notN (pv 3) pe_non (nomark _)) (pe_one (pe_callB (cr_all (by rfl)) (by rfl) T.n_all (by decide +kernel) (pa_cons (pe_lc (own := [("part", 4)]) (g := gName 4) (by rfl) sc_holds.nd (pi_tup (pv 3)) (blkOk_by (N := N_holds) (sc := defScope s_holds) (by decide +kernel)) (fun _ _ _ _ _ => (pg_name (i := 4) sc_holds.nd rfl (Or.inl rfl))) (fun _ _ _ _ _ => pts_nil) (fun _ _ _ _ _ => (pe_call G_holds (hr.mono (by omega)) (by rfl) T.m_holds T.F_holds.kp T.b_holds .nil pass0 (pa_cons (pv 0) (pa_cons (pv 4) (pa_cons (pv 2) pa_nil)))))) pa_nil))))))), ?_⟩
      refine ⟨_, rfl, _, rfl, _, rfl, _, rfl, f, _, dx, _, _, rfl, hf, T.cl_Fold, T.na_Fold_held, rfl, _, rfl, l, _, _, _, rfl, rfl, SqL.of hbv, atI_nat hat, ta, _, _, _, rfl, rfl, SqT.of hta, rfl, d, .int e.1, rfl, ?_, f, ps, B, tops, m, b, e, rfl, hW, hb, he, fun q2 hq2 => ?_⟩
      · rw [← ha0]
        exact DGet.k (k := Sum.inr b.1) hd
      refine ⟨_, rfl, rfl, true, rfl, iteT ?_⟩
      have hpl : e.2.length ≤ 8 := by
        rw [hpo.1]
        exact Nat.le_trans kids_le g.gp.le
      refine ⟨_, rfl, q2, rfl, ⟨_, SqT.of hq2⟩, fun D hD => ?_⟩
      refine lc_map (walk_tup (K := K) (a := q2) (xs := nVs e.2)) (fun _ => .bl true) hD (by rw [nVs_len]; omega) (fun H' s => SqT.of (s _ _ hq2)) (fun i x H1 H2 hi s1 y => ?_) fun H' s hl => ?_
      · obtain ⟨rfl, hx⟩ := y
        obtain ⟨k, hk2, rfl⟩ := nVs_some hx
        obtain ⟨p, b', hp, hb', hap⟩ := hpc i k hk2
        have hrk : rankP ps b'.1 ≤ n := by
          obtain ⟨kk, b2, h1, h2, h3⟩ := hpo.at hk2
          rw [hb'] at h2
          cases h2
          rw [← h3] at h1
          have := (rank_kid g.gp (List.mem_of_getElem? h1)).1
          omega
        refine ⟨Same.refl _, fun Q' F hq => ⟨rfl, yesI ?_⟩⟩
        exact ⟨_, rfl, _, rfl, _, rfl, f, d, ps, B, tops, k, b', kvs, p, rfl, hW.mono s1, hb', hrk, s1 _ _ hd, hp, hap, fun H3 s3 => hq H3 s3⟩
      · refine ⟨D, List.replicate e.2.length true, rfl, SqL.of ?_, ?_⟩
        · rw [hl]
          congr 2
          rw [nVs_len]
          apply List.ext_getElem?
          intro k
          simp [List.getElem?_replicate, List.getElem?_range]
          by_cases hk : k < e.2.length
          · rw [if_pos hk, List.getElem?_range hk]; rfl
          · rw [if_neg hk, List.getElem?_eq_none (by simp; omega)]; rfl
        · have e : (List.replicate e.2.length true).all id = true := by simp
          rw [e]
          exact q _ s
def sp_Fold_has (P : Program) (w : World) (C D : Addr) : Sp := fun vs H Q _ => ∃ (f t : Addr) (ps : Prs Str) (B : List Bun) (tops : List Nat) (r : List Int), vs = [.ref f, .ref t] ∧ FW P w C D H f ps B tops ∧ H t = some (.tup (iVs r)) ∧ r ∈ AllR B tops ∧ BackV H Q (.bl true)
theorem ok_Fold_has (T : Txt K mg) : FnOk P w K mg base CX0 11 T.f_Fold_has T.fd_Fold_has ["self", "row"] (sp_Fold_has P w T.C_Fold T.C_Tree) := by
  have G_want_row : FnOk P w K mg base CX0 3 T.f_want_row T.fd_want_row ["thing", "many", "at"] sp_want_row := ok_want_row T
  have G_Tree_len : FnOk P w K mg base CX0 1 T.f_Tree_len T.fd_Tree_len ["self"] (sp_Tree_len P w T.C_Tree) := ok_Tree_len T
  have G_Tree_columns : FnOk P w K mg base CX0 1 T.f_Tree_columns T.fd_Tree_columns ["self"] (sp_Tree_columns P w T.C_Tree) := ok_Tree_columns T
  have G_holds : FnOk P w K mg base CX0 10 T.f_holds T.fd_holds ["fold", "number", "values"] (sp_holds P w T.C_Fold T.C_Tree 8) := ok_holds T 8
  obtain ⟨dv, V_want_row2, B_want_row2⟩ := bnd_want2 T
  refine T.F_Fold_has.ok sc_Fold_has (fun vs H Q E h => ?_) (fun cdv A outer s H vs Q E hr h => ?_)
  · obtain ⟨_, _, _, _, _, _, rfl, _⟩ := h
    rfl
  · obtain ⟨f, t, ps, B, tops, r, rfl, hW, ht, hrr, q⟩ := h
    obtain ⟨dx, tr, l, r1, hf, hT, hB, hr1⟩ := id hW.fd
    obtain ⟨dt, d1, d2, d3, htr, _⟩ := id hT
    have g := hW.g
    have hrl : r.length = (order ps).length := by
      rw [(prod_good g hW.tp).2 r hrr, order_len]
    have hol := order_le g.gp
    refine ⟨_, (pss_cons (ps_expr (pe_call G_want_row (hr.mono (by omega)) (by rfl) T.m_want_row T.F_want_row.kp B_want_row2 V_want_row2 pass0 (pa_cons (pv 1) (pa_cons (pe_callB (call_len_own T.mt_Tree_len G_Tree_len (hr.mono (by omega)) T.b_Tree_len pass0) (by rfl) T.n_len PySem.boot_len (pa_cons (pe_fld (pv 0) rfl) pa_nil)) pa_nil))))
    (pss_cons (ps_if (pt_cmpR op_isN (pe_fld (pv 0) rfl) pe_non (nomark _)) (pss_one (ps_ret pe_bl)) pss_nil)
    (pss_cons (ps_set (i := 2) sc_Fold_has.nd rfl (Or.inr rfl) (pe_dictzip (by rfl) (by rfl) T.n_dict (by rfl) T.n_zip (pa_cons (pe_meth0 (pe_fld (pv 0) rfl) T.cl_Tree T.mt_Tree_columns G_Tree_columns (hr.mono (by omega)) T.b_Tree_columns .nil pass0) (pa_cons (pv 1) pa_nil))))
    (pss_one (ps_ret (pe_callB (cr_all (by rfl)) (by rfl) T.n_all (by decide +kernel) (pa_cons (pe_lc (own := [("number", 3)]) (g := gName 3) (by rfl) sc_Fold_has.nd (pi_tup (pe_fld (pv 0) rfl)) (blkOk_by (N := N_Fold_has) (sc := defScope s_Fold_has) (by decide +kernel)) (fun _ _ _ _ _ => (pg_name (i := 3) sc_Fold_has.nd rfl (Or.inl rfl))) (fun _ _ _ _ _ => pts_nil) (fun _ _ _ _ _ => (pe_call G_holds (hr.mono (by omega)) (by rfl) T.m_holds T.F_holds.kp T.b_holds .nil pass0 (pa_cons (pv 0) (pa_cons (pv 3) (pa_cons (pv 2) pa_nil)))))) pa_nil))))))), ?_⟩
    refine ⟨_, rfl, _, rfl, f, _, dx, _, _, rfl, hf, T.cl_Fold, T.na_Fold_shape, rfl, tr, dt, _, rfl, htr, tr, ps, rfl, hT, _, rfl, by omega, by omega, t, r, _, _, rfl, ht, by omega, by omega, fun H1 s1 => ?_⟩
    refine ⟨_, rfl, f, _, dx, _, _, rfl, s1 _ _ hf, T.cl_Fold, T.na_Fold_roots, rfl, rfl, _, rfl, ?_⟩
    have hT1 := hT.mono s1
    refine ⟨_, rfl, f, _, dx, _, _, rfl, s1 _ _ hf, T.cl_Fold, T.na_Fold_shape, rfl, tr, dt, _, rfl, s1 _ _ htr, rfl, tr, ps, rfl, hT1, fun lo H2 hlo0 s2 hlo => ?_⟩
    have s12 := s1.trans s2
    refine ⟨_, rfl, lo, t, order ps, iVs r, rfl, SqL.of hlo, SqT.of (s12 _ _ ht), by rw [iVs_len]; omega, fun d hd => ?_⟩
    have s3 : Same H2 (upd H2 d (.dK (mergeK [] (List.zip ((order ps).map Sum.inr) (iVs r))))) := Same.new hd
    have s13 := s12.trans s3
    have hd3 : (upd H2 d (.dK (mergeK [] (List.zip ((order ps).map Sum.inr) (iVs r))))) d = some (.dK (mergeK [] (List.zip ((order ps).map Sum.inr) (iVs r)))) := upd_same
    generalize (upd H2 d (.dK (mergeK [] (List.zip ((order ps).map Sum.inr) (iVs r))))) = H3 at s3 s13 hd3 ⊢
    have hz1 : ((List.zip ((order ps).map (Sum.inr : Str → Key)) (iVs r)).map (·.1)).Nodup := by
      rw [List.map_fst_zip (by rw [List.length_map, iVs_len]; omega)]
      exact List.pairwise_map.mpr (List.Pairwise.imp (fun {a b} h e => h (by injection e)) (order_nodup g.gp))
    have hmk : mergeK [] (List.zip ((order ps).map (Sum.inr : Str → Key)) (iVs r)) = List.zip ((order ps).map Sum.inr) (iVs r) := by
      have := putK_snocs (List.zip ((order ps).map (Sum.inr : Str → Key)) (iVs r)) [] (by simpa using hz1)
      simpa [mergeK] using this
    rw [hmk] at hd3
    have hass : Ass (List.zip ((order ps).map (Sum.inr : Str → Key)) (iVs r)) (order ps) r := by
      intro p hp
      refine valV_mem hz1 ?_
      unfold iVs
      rw [List.zip_map]
      exact List.mem_map.mpr ⟨p, hp, rfl⟩
    have hpc := pieces g hW.tp.1 hW.tp.2 (fun k hk => ⟨_, mem_kids.mp hk⟩) hrr hass
    have hW3 := hW.mono s13
    have htl : tops.length ≤ 8 := by
      rw [hW.tp.1]
      exact Nat.le_trans kids_le g.gp.le
    refine ⟨_, rfl, f, _, dx, _, _, rfl, s13 _ _ hf, T.cl_Fold, T.na_Fold_roots, rfl, r1, rfl, ⟨_, SqT.of (s13 _ _ hr1)⟩, fun D hD => ?_⟩
    refine lc_map (walk_tup (K := K) (a := r1) (xs := nVs tops)) (fun _ => .bl true) hD (by rw [nVs_len]; omega) (fun H' s => SqT.of (s _ _ (s13 _ _ hr1))) (fun i x H4 H5 hi s4 y => ?_) fun H' s hl => ?_
    · obtain ⟨rfl, hx⟩ := y
      obtain ⟨k, hk2, rfl⟩ := nVs_some hx
      obtain ⟨p, b', hp, hb', hap⟩ := hpc i k hk2
      refine ⟨Same.refl _, fun Q' F hq => ⟨rfl, yesI ?_⟩⟩
      exact ⟨_, rfl, _, rfl, _, rfl, f, d, ps, B, tops, k, b', _, p, rfl, hW3.mono s4, hb', (rank_le g hb').2, s4 _ _ hd3, hp, hap, fun H3 s3 => hq H3 s3⟩
    · refine ⟨D, List.replicate tops.length true, rfl, SqL.of ?_, ?_⟩
      · rw [hl]
        congr 2
        rw [nVs_len]
        apply List.ext_getElem?
        intro k
        simp [List.getElem?_replicate, List.getElem?_range]
        by_cases hk : k < tops.length
        · rw [if_pos hk, List.getElem?_range hk]; rfl
        · rw [if_neg hk, List.getElem?_eq_none (by simp; omega)]; rfl
      · have e : (List.replicate tops.length true).all id = true := by simp
        rw [e]
        exact q _ (s13.trans s)
end
end Fb
set_option Elab.async false
set_option linter.all false
set_option maxRecDepth 100000
set_option maxHeartbeats 4000000
/-! for i, x in enumerate(a tuple). -/
namespace PySem
open Sem (wp)
theorem meets_enumerate_newT (l : Addr) (items : Array Value) :
    Meets (Builtin.«enumerate.__new__» ⟨[.type "enumerate", .ref l], []⟩) (fun _ R s => s.heap.IsTuple l items ∧
      R (.ok (.ret (.ref (s.heap.push { cls := .type "tuple_iterator", data := .fields #[.ref l, .int 0 0] }).objs.size)))
        { s with heap := (s.heap.push { cls := .type "tuple_iterator", data := .fields #[.ref l, .int 0 0] }).push { cls := .type "enumerate", data := .fields #[.none, .bool false, .ref s.heap.objs.size, rawInt 0, .none, .none] } }) :=
  .of_wp fun prog w A R s h => by
    obtain ⟨hp, g, d, tk, os⟩ := s; obtain ⟨hl, h⟩ := h
    have hsub := sub_enumerate
    have hL : Heap.IsTuple (Shared.heap ⟨hp, g, d, tk, os⟩) l items := hl
    have q1 : ∀ {A' : Around} {E : Value → Shared → Prop} {Q : Value → Shared → Prop}, Q (.ref hp.objs.size) ⟨hp.push { cls := .type "tuple_iterator", data := .fields #[.ref l, .int 0 0] }, g, d, tk, os⟩ → wpAny (model prog w) A' (pyIter (.ref l)) Q E ⟨hp, g, d, tk, os⟩ :=
      fun q => (begins_tuple l items).iter prog w _ _ ⟨hp, g, d, tk, os⟩ _ hL q
    wp_walk using q1
    refine wpAny_stack_any fun st => wpAny_pure ?_
    split
    · rename_i c _ _ _ _ _
      cases (c == Value.type "enumerate")
      · wp_walk using q1
        exact ⟨_, rfl, h⟩
      · wp_walk using q1
        exact ⟨_, rfl, h⟩
    · wp_walk using q1
      exact ⟨_, rfl, h⟩
section
variable {prog : Program} {w : World} {A : Around} {E : Value → Shared → Prop} {s : Shared}
theorem call_enumerate_tuple {l : Addr} {items : Array Value} {Q : Value → Shared → Prop} (hL : s.heap.IsTuple l items)
    (h : ∀ h', IsEnum h' (s.heap.objs.size + 1) s.heap.objs.size 0 .none → h'.IsTupleIter s.heap.objs.size l 0 → h'.objs.size = s.heap.objs.size + 2 →
      (∀ b o, s.heap.get? b = some o → h'.get? b = some o) → Q (.ref (s.heap.objs.size + 1)) { s with heap := h' }) :
    wpAny (model prog w) A (call (.type "enumerate") [.ref l]) Q E s := by
  refine callType_new F.called_enumerate (by decide) (F.typeCall_enumerate_1 _) (F.newCall_enumerate_1 _) (fun obj => F.args_object_init_2 obj _) F.entry_enumerate_new
    (meets_enumerate_newT l items) ⟨hL, ?_⟩
  have hz : (s.heap.push { cls := .type "tuple_iterator", data := .fields #[.ref l, .int 0 0] }).objs.size = s.heap.objs.size + 1 := Heap.size_push ..
  show _ ∧ _
  rw [hz]
  have he : IsEnum ((s.heap.push { cls := .type "tuple_iterator", data := .fields #[.ref l, .int 0 0] }).push
      { cls := .type "enumerate", data := .fields #[.none, .bool false, .ref s.heap.objs.size, rawInt 0, .none, .none] }) (s.heap.objs.size + 1) s.heap.objs.size 0 .none := by
    have := Heap.get?_push_size (s.heap.push { cls := .type "tuple_iterator", data := .fields #[.ref l, .int 0 0] })
      (o := { cls := .type "enumerate", data := .fields #[.none, .bool false, .ref s.heap.objs.size, rawInt 0, .none, .none] }) rfl
    rw [hz] at this; exact this
  refine ⟨⟨_, he, rfl⟩, h _ he ⟨_, Heap.get?_push_of_some _ (Heap.get?_push_size _ rfl), rfl, rfl⟩ (by rw [Heap.size_push, hz]) fun b o x => Heap.get?_push_of_some _ (Heap.get?_push_of_some _ x)⟩
end
end PySem
namespace Fb
open PySem PySem.Spec PyProof.Rows L2
/-- the tuple at a, its items in new pairs with their index -/
def ItET (K : PySem.W.Frag) (a : Addr) : It :=
  ⟨fun i H => ∃ (xs : List V) (x : V), SqT K H a xs ∧ xs[i]? = some x,
   fun i H v H' => ∃ T x, v = .ref T ∧ H T = none ∧ H' = upd H T (.tup [.int (i : Nat), x]) ∧ ∀ xs, SqT K H a xs → xs[i]? = some x,
   fun i H => ∃ xs : List V, SqT K H a xs ∧ xs.length = i⟩
abbrev StET (e it a : Addr) (i : Nat) (h : Heap) : Prop := (∃ old, IsEnum h e it (i : Int) old) ∧ h.IsTupleIter it a i ∧ it ≠ e
theorem turn_ET {P : Program} {w : World} {K : PySem.W.Frag} {elts : List Expr} {kk : Nat} {tpos : Pos} {a e it : Addr} (hae : a ≠ e) :
    Turn P w K (.Tuple elts kk tpos) (ItET K a) [e, it] e (StET e it a) where
  mem := by simp
  obj := fun i h st c hc => by
    obtain ⟨⟨old, he⟩, ⟨o1, e1, _, d1⟩, hne⟩ := st
    simp only [List.mem_cons, List.not_mem_nil, or_false] at hc
    rcases hc with rfl | rfl
    · exact ⟨_, he, fun v q => nomatch q⟩
    · exact ⟨o1, e1, fun v q => by rw [d1] at q; cases q⟩
  keep := fun i h h' st k => by
    obtain ⟨⟨old, he⟩, h1, hne⟩ := st
    exact ⟨⟨old, k e (by simp) _ he⟩, h1.at fun o q => k it (by simp) o q, hne⟩
  item := by
    intro X hP hw hK hc i pins s σ H E I hf st hg
    subst hP hw hK
    obtain ⟨⟨old, he⟩, h1, hne⟩ := st
    obtain ⟨xs, x, hqx, hx⟩ := hg
    obtain ⟨its, rv, p, _⟩ := I.tuple hqx
    obtain ⟨u, hu, ru⟩ := rv.get hx
    have hh : X.A.in1.handled = none := I.ok.hd hc
    have na : a ≠ it := tup_it p h1
    have W := WalksT.enumFrom 0 (Draws.tuple (prog := X.prog) (w := X.w) hh it a na its.toArray) e (Ne.symm hne) (by simp [Ne.symm hne, Ne.symm hae]) (by simp)
    have hi1 : i < its.toArray.size := by
      have := (List.getElem?_eq_some_iff.mp hu).1
      simpa using this
    have e0 : (0 : Int) + (i : Int) = (i : Int) := by omega
    refine W.item i s _ E hi1 ⟨⟨old, by rw [e0]; exact he⟩, h1, p⟩ fun T vals h' tk hPt hT hTup hMid hk => ?_
    obtain ⟨t, w1, e1, rfl⟩ := hPt
    have f1 : w1 = u := by
      have : its.toArray[i]? = some u := by simpa using hu
      rw [this] at e1; exact (Option.some.inj e1).symm
    subst f1
    have hap := W.apart i T h' hMid
    refine ⟨_, rfl, W.go elts kk tpos i T { s with heap := h', toks := tk } _ E hMid fun h'' hSt hk2 => ?_⟩
    obtain ⟨⟨old', he'⟩, h1', _⟩ := hSt
    have hTup2 : IsTup h'' T #[.int (0 + (i : Int)) t, w1] := by
      obtain ⟨o, ho, r⟩ := hTup
      exact ⟨o, hk2 T o hap ho, r⟩
    have new : ObjOk X.prog X.w (upd H T (.tup [.int (i : Nat), x])) h'' T (.tup [.int (i : Nat), x]) := ⟨by show 2 ≤ sizeLine; decide, [.int (0 + (i : Int)) t, w1], .cons ⟨t, by rw [e0]⟩ (.cons ru .nil), hTup2⟩
    have I1 : Inv X pins σ (upd H T (.tup [.int (i : Nat), x])) { s with heap := h'', toks := tk } :=
      I.turnedNew (ch := [e, it]) (fun c o hb q => hk2 c o hb (hk c o hb q)) hf hT new
    have e2 : (0 : Int) + ((i + 1 : Nat) : Int) = ((i + 1 : Nat) : Int) := by omega
    refine ⟨.ref T, _, I1, rfl, ⟨T, x, rfl, I.hok.fresh hT, rfl, fun l hl => by rw [I.tuple_inj hl hqx]; exact hx⟩, ⟨⟨old', by rw [← e2]; exact he'⟩, h1', hne⟩, fun c hcm => ?_⟩
    have hlt : c < s.heap.objs.size := by
      simp only [List.mem_cons, List.not_mem_nil, or_false] at hcm
      rcases hcm with q | q
      · rw [q]; exact Heap.lt_size he
      · rw [q]; obtain ⟨_, e, _⟩ := h1; exact Heap.lt_size e
    rw [upd_ne (Nat.ne_of_lt (Nat.lt_of_lt_of_le hlt hT))]
    exact (hf c hcm).1
  done := by
    intro X hP hw hK hc i pins s σ H E I hf st hg
    subst hP hw hK
    obtain ⟨⟨old, he⟩, h1, hne⟩ := st
    obtain ⟨xs, hqx, l1⟩ := hg
    obtain ⟨its, rv, p, _⟩ := I.tuple hqx
    have hh : X.A.in1.handled = none := I.ok.hd hc
    have na : a ≠ it := tup_it p h1
    have W := WalksT.enumFrom 0 (Draws.tuple (prog := X.prog) (w := X.w) hh it a na its.toArray) e (Ne.symm hne) (by simp [Ne.symm hne, Ne.symm hae]) (by simp)
    have e1 : its.toArray.size = i := by rw [List.size_toArray, ← rv.length, l1]
    have e0 : (0 : Int) + (i : Int) = (i : Int) := by omega
    refine W.done s _ E ?_ fun h' tk hk => ⟨rfl, I.turnedL (ch := [e, it]) (fun c o hb q => hk c o hb q) hf⟩
    rw [e1]
    exact ⟨⟨old, by rw [e0]; exact he⟩, h1, p⟩
  self := fun A i s Q E st h => let ⟨⟨_, he⟩, _⟩ := st; wpAny_pyIter_enum he h
def iEnumT (K : PySem.W.Frag) (ta : TA) : TI := fun σ H R => ta σ H fun vs H1 => ∃ a xs, vs = [.ref a] ∧ SqT K H1 a xs ∧ R (ItET K a) H1
theorem pi_enumT {X : Cx} {e : Expr} {ta : TA} {p pos tpos : Pos} {elts : List Expr} {kk : Nat} (hg : Gl X "enumerate") (hm : X.mg "enumerate" = none) (ha : PA X [e] ta) (hs : starEach [e] X.env = [(false, eval e X.env)] := by rfl) :
    PI X (.Tuple elts kk tpos) (.Call (.Name "enumerate" p) [e] [] pos) (iEnumT X.K ta) := by
  refine ⟨fun pins s σ H R I h => ?_⟩
  refine Call_ (ld_blt I hg hm boot_enumerate (PyProof.Rows.callWith_type1 (thn (ha.run pos pins s σ H _ I h) fun us s1 ⟨vs, H1, I1, r1, q1⟩ => ?_) hs rfl))
  obtain ⟨a, xs, ex, hq, q⟩ := q1
  subst ex
  cases r1 with
  | cons r rr =>
    cases rr
    cases r
    obtain ⟨its, rv, p', hz⟩ := I1.tuple hq
    have la : a < s1.heap.objs.size := by obtain ⟨o, ho, _⟩ := p'; exact Heap.lt_size ho
    refine call_enumerate_tuple p' fun h' he hit hsz hk => wpAny_pyIter_enum he ?_
    have I2 : Inv X pins σ H1 { s1 with heap := h' } := I1.kept (t' := s1.toks) hk
    refine ⟨s1.heap.objs.size + 1, [s1.heap.objs.size + 1, s1.heap.objs.size], _, _, H1, rfl, I2, turn_ET (it := s1.heap.objs.size) (Nat.ne_of_lt (Nat.lt_succ_of_lt la)), ⟨⟨.none, he⟩, hit, Nat.ne_of_lt (Nat.lt_succ_self _)⟩, fun b hb => ?_, q⟩
    have hle : s1.heap.objs.size ≤ b := by
      simp only [List.mem_cons, List.not_mem_nil, or_false] at hb
      rcases hb with z | z
      · rw [z]; exact Nat.le_add_right _ _
      · rw [z]; exact Nat.le_refl _
    exact I1.fpOk hle (I1.hok.fresh hle)
theorem walk_enumT {K : PySem.W.Frag} {a : Addr} {xs : List V} : Walk (ItET K a) xs.length (fun H => SqT K H a xs) (YPair (fun i => some (.int (i : Nat))) (fun i => xs[i]?)) := by
  refine ⟨fun i _ hi q => ⟨xs, xs[i], q, by simp [hi]⟩, fun _ q => ⟨xs, q, rfl⟩, fun i H v H' _ q y => ?_⟩
  obtain ⟨T, x, h1, h2, h3, h4⟩ := y
  exact ⟨T, .int (i : Nat), x, h1, h2, h3, rfl, h4 xs q⟩
end Fb
set_option Elab.async false
set_option linter.all false
set_option maxRecDepth 100000
set_option maxHeartbeats 1000000
/-! Rows by their numbers. -/
namespace Fb
open PySem PySem.Spec PyProof.Rows L2
theorem cut_n1 {ds : List Nat} {i : Nat} : cutV (nVs ds) (some ((i : Int) + 1)) none = nVs (ds.drop (i + 1)) := by
  have : ((i : Int) + 1) = ((i + 1 : Nat) : Int) := by omega
  rw [this, cut_from]
  unfold nVs
  rw [List.map_drop]
theorem PartsOk.drop_lt {ps : Prs Str} {B : List Bun} (g : GoodB ps B) {o : Option Str} {ds : List Nat} (h : PartsOk ps B o ds) (i : Nat) : ∀ p ∈ ds.drop i, p < (cnts B).length ∧ (cnts B).getD p 0 < 2 ^ 60 := fun p hp => parts_lt g h p (List.mem_of_mem_drop hp)
theorem PartsOk.drop_prod {ps : Prs Str} {B : List Bun} {o : Option Str} {ds : List Nat} (h : PartsOk ps B o ds) (i : Nat) : prodN (fun p => (cnts B).getD p 0) (ds.drop i) = prodN (cnt B) (ds.drop i) := prodN_ext fun p hp => by
  obtain ⟨_, b', _, hb', _⟩ := h.mem (List.mem_of_mem_drop hp)
  exact cnts_at (List.getElem?_eq_some_iff.mp hb').1
theorem prodN_app (c : Nat → Nat) (xs ys : List Nat) : prodN c (xs ++ ys) = prodN c xs * prodN c ys := by
  induction xs with
  | nil => simp [prodN]
  | cons x xs ih => rw [List.cons_append, prodN_cons, prodN_cons, ih, Nat.mul_assoc]
theorem PartsOk.drop_le {ps : Prs Str} {B : List Bun} (g : GoodB ps B) {o : Option Str} (ho : ∀ c, o = some c → ∃ q, (c, q) ∈ ps) {ds : List Nat} (h : PartsOk ps B o ds) (i : Nat) : 1 ≤ prodN (cnt B) (ds.drop i) ∧ prodN (cnt B) (ds.drop i) ≤ 815730721 := by
  have h1 := prodN_le g ho h
  have e := prodN_app (cnt B) (ds.take i) (ds.drop i)
  rw [List.take_append_drop] at e
  have p1 : 1 ≤ prodN (cnt B) (ds.take i) := prodN_pos fun d hd => by
    obtain ⟨_, b', _, hb', _⟩ := h.mem (List.mem_of_mem_take hd)
    exact (cnt_le g hb').1
  have p2 : 1 ≤ prodN (cnt B) (ds.drop i) := prodN_pos fun d hd => by
    obtain ⟨_, b', _, hb', _⟩ := h.mem (List.mem_of_mem_drop hd)
    exact (cnt_le g hb').1
  refine ⟨p2, Nat.le_trans ?_ h1.2⟩
  rw [e]
  exact Nat.le_mul_of_pos_left _ p1
section
variable {P : Program} {w : World} {K : PySem.W.Frag} {mg : Str → Option Value} {base : Heap}
def sp_parts_row (P : Program) (w : World) (C D : Addr) (n : Nat) : Sp := fun vs H Q _ => ∃ (f lm lp : Addr) (ps : Prs Str) (B : List Bun) (tops : List Nat) (o : Option Str) (ds : List Nat) (num : Nat) (row : List Int), vs = [.ref f, .ref lm, .ref lp, nV num] ∧ FW P w C D H f ps B tops ∧ NL H lm (cnts B) ∧
  (∀ c, o = some c → ∃ q, (c, q) ∈ ps) ∧ rkO ps o ≤ n ∧ PartsOk ps B o ds ∧ NT H lp ds ∧ (prod (ds.map (RR B)))[num]? = some row ∧ BackT H Q (iVs row)
def sp_bunch_row (P : Program) (w : World) (C D : Addr) (n : Nat) : Sp := fun vs H Q _ => ∃ (f lm : Addr) (ps : Prs Str) (B : List Bun) (tops : List Nat) (m : Nat) (b : Bun) (num : Nat) (row : List Int), vs = [.ref f, .ref lm, nV m, nV num] ∧ FW P w C D H f ps B tops ∧ NL H lm (cnts B) ∧
  B[m]? = some b ∧ rankP ps b.1 ≤ n ∧ (RR B m)[num]? = some row ∧ BackT H Q (iVs row)
theorem row_w {ps : Prs Str} {B : List Bun} (g : GoodB ps B) {o : Option Str} (ho : ∀ c, o = some c → ∃ q, (c, q) ∈ ps) {ds : List Nat} (h : PartsOk ps B o ds) {num : Nat} {row : List Int} (hr : (prod (ds.map (RR B)))[num]? = some row) : row.length ≤ 8 := by
  rw [(prod_good g h).2 row (List.mem_of_getElem? hr)]
  exact wids_le g.gp ho
theorem ok_bunch_row (T : Txt K mg) (n : Nat) (G_parts_row : FnOk P w K mg base CX0 (2 * n + 2) T.f_parts_row T.fd_parts_row ["fold", "many", "parts", "number"] (sp_parts_row P w T.C_Fold T.C_Tree n)) :
    FnOk P w K mg base CX0 (2 * n + 3) T.f_bunch_row T.fd_bunch_row ["fold", "many", "bunch", "number"] (sp_bunch_row P w T.C_Fold T.C_Tree n) := by
  have G_product_at : FnOk P w K mg base CX0 1 T.f_product_at T.fd_product_at ["numbers", "parts"] sp_product_at := ok_product_at T
  refine T.F_bunch_row.ok sc_bunch_row (fun vs H Q E h => ?_) (fun cdv A outer s H vs Q E hr h => ?_)
  · obtain ⟨_, _, _, _, _, _, _, _, _, rfl, _⟩ := h
    rfl
  · obtain ⟨f, lm, ps, B, tops, m, b, num, row, rfl, hW, hm, hb, hk, hrow, q⟩ := h
    obtain ⟨dx, t, l, r1, hf, hT, hB, hr1⟩ := id hW.fd
    obtain ⟨bv, ta, le, hbv, hbl, hat, hta, ev, hev, hE⟩ := hB.at hb
    have g := hW.g
    rw [RR_eq g hb] at hrow
    refine ⟨_, (pss_cons (ps_for PassesOwn.never (by rfl) (pi_list (pe_ix ix_tup (pe_ix ix_list (pe_fld (pv 0) rfl) (pv 2) (fun _ _ => rfl)) pe_int (fun _ _ => rfl))) (pg_tup (by rfl) (pgs_cons (pg_name (i := 4) sc_bunch_row.nd rfl (Or.inl rfl)) (pgs_cons (pg_name (i := 5) sc_bunch_row.nd rfl (Or.inl rfl)) pgs_nil))) (pss_cons (ps_set (i := 6) sc_bunch_row.nd rfl (Or.inl rfl) (pe_call G_product_at (hr.mono (by omega)) (by rfl) T.m_product_at T.F_product_at.kp T.b_product_at .nil pass0 (pa_cons (pv 1) (pa_cons (pv 5) pa_nil))))
      (pss_cons (ps_if (pt_cmpR op_lt (pv 3) (pv 6) (nomark _)) (pss_one (ps_ret (pe_op op_catB (pe_tup (pa_cons (pv 4) pa_nil)) (pe_call G_parts_row (hr.mono (by omega)) (by rfl) T.m_parts_row T.F_parts_row.kp T.b_parts_row .nil pass0 (pa_cons (pv 0) (pa_cons (pv 1) (pa_cons (pv 5) (pa_cons (pv 3) pa_nil)))))))) pss_nil)
      (pss_one (ps_aug (i := 3) sc_bunch_row.nd rfl (Or.inl rfl) (pv 6) ip_sub)))))
    (pss_one (ps_ret (pe_tup pa_nil)))), ?_⟩
    refine ⟨_, rfl, f, _, dx, _, _, rfl, hf, T.cl_Fold, T.na_Fold_held, rfl, _, rfl, l, _, _, _, rfl, rfl, SqL.of hbv, atI_nat hat, ta, _, _, _, rfl, rfl, SqT.of hta, rfl, le, rfl, ⟨ev, SqL.of hev⟩, ?_⟩
    have hel := Paired.length hE
    refine for_it (walk_list (K := K) (a := le) (xs := ev)) (fun i σ H' => ∃ (k : Nat) (v4 v5 v6 : Option V), σ = [some (.ref f), some (.ref lm), some (nV m), some (nV k), v4, v5, v6] ∧ H' = H ∧ (bunRows (RR B) (b.2.drop i))[k]? = some row) ?_ ?_ ?_ ?_
    · exact ⟨num, none, none, none, rfl, rfl, hrow⟩
    · rintro i σ H' hi ⟨k, v4, v5, v6, _, rfl, _⟩
      exact SqL.of hev
    · rintro i x σ H3 H2 hi ⟨k, v4, v5, v6, rfl, rfl, hk2⟩ ⟨rfl, hx⟩
      obtain ⟨e, he, a1, b1, rfl, h1, h2⟩ := Paired.ofL hE hx
      have hpo := g.parts m b hb e (List.mem_of_getElem? he)
      refine ⟨a1, _, rfl, SqT.of h1, rfl, _, _, rfl, _, _, rfl, rfl, ?_⟩
      refine ⟨_, rfl, _, rfl, lm, b1, _, e.2, rfl, hm, h2, parts_lt g hpo, ?_⟩
      rw [parts_prod hpo]
      rw [drop_at he, bun_cons] at hk2
      have hlen : (entRows (RR B) e).length = prodN (cnt B) e.2 := by rw [len_ent, prod_len]
      refine ⟨_, rfl, _, rfl, _, _, rfl, rfl, _, rfl, ?_⟩
      by_cases hlt : k < prodN (cnt B) e.2
      · refine iteD (by omega) ?_
        rw [List.getElem?_append_left (by rw [hlen]; exact hlt)] at hk2
        unfold entRows at hk2
        rw [List.getElem?_map] at hk2
        obtain ⟨row2, hr2, rfl⟩ := Option.map_eq_some_iff.mp hk2
        have hv : ∀ c, some b.1 = some c → ∃ q, (c, q) ∈ ps := fun c hc => by cases hc; exact order_names (g.col m b hb)
        have hw := row_w g hv hpo hr2
        refine ⟨_, rfl, big' (by simp), fun t1 ht1 => ?_⟩
        have s1 := Same.new (o := .tup [.int e.1]) ht1
        refine ⟨_, rfl, _, rfl, _, rfl, _, rfl, f, lm, b1, ps, B, tops, some b.1, e.2, k, row2, rfl, hW.mono s1, s1 _ _ hm, hv, hk, hpo, s1 _ _ h2, hr2, fun t2 H4 s4 ht2 => ?_⟩
        refine ⟨t1, t2, _, _, rfl, rfl, s4 _ _ upd_same, ht2, big' (by rw [iVs_len]; simp; omega), fun t3 H5 s5 ht3 => ?_⟩
        exact q t3 H5 (s1.trans (s4.trans s5)) ht3
      · refine iteDn (by omega) ?_
        rw [List.getElem?_append_right (by rw [hlen]; omega), hlen] at hk2
        refine ⟨_, rfl, _, rfl, _, _, rfl, rfl, k - prodN (cnt B) e.2, some (.int e.1), some (.ref b1), some (nV (prodN (cnt B) e.2)), ?_, rfl, hk2⟩
        have e2 : (k : Int) - (prodN (cnt B) e.2 : Nat) = ((k - prodN (cnt B) e.2 : Nat) : Int) := by omega
        show _ = [_, _, _, some (V.int ((k - prodN (cnt B) e.2 : Nat) : Int)), _, _, _]
        rw [← e2]
        rfl
    · rintro σ H2 ⟨k, v4, v5, v6, rfl, rfl, hk2⟩
      rw [hel, List.drop_length] at hk2
      simp [bun_nil] at hk2
theorem ok_parts_row (T : Txt K mg) : ∀ n, FnOk P w K mg base CX0 (2 * n + 2) T.f_parts_row T.fd_parts_row ["fold", "many", "parts", "number"] (sp_parts_row P w T.C_Fold T.C_Tree n) := by
  have G_product_at : FnOk P w K mg base CX0 1 T.f_product_at T.fd_product_at ["numbers", "parts"] sp_product_at := ok_product_at T
  intro n
  induction n with
  | zero =>
    refine T.F_parts_row.ok sc_parts_row (fun vs H Q E h => ?_) (fun cdv A outer s H vs Q E hr h => ?_)
    · obtain ⟨_, _, _, _, _, _, _, _, _, _, rfl, _⟩ := h
      rfl
    · obtain ⟨f, lm, lp, ps, B, tops, o, ds, num, row, rfl, hW, hm, ho, hk, _⟩ := h
      have := rk_pos hW.g.gp ho
      omega
  | succ n ih =>
    have G_bunch_row := ok_bunch_row T n ih
    refine T.F_parts_row.ok sc_parts_row (fun vs H Q E h => ?_) (fun cdv A outer s H vs Q E hr h => ?_)
    · obtain ⟨_, _, _, _, _, _, _, _, _, _, rfl, _⟩ := h
      rfl
    · obtain ⟨f, lm, lp, ps, B, tops, o, ds, num, row, rfl, hW, hm, ho, hk, hp, hlp, hrow, q⟩ := h
      have g := hW.g
      have hwr := row_w g ho hp hrow
      refine ⟨_, (pss_cons (ps_set (i := 4) sc_parts_row.nd rfl (Or.inl rfl) (pe_tup pa_nil))
    (pss_cons (ps_for PassesOwn.never (by rfl) (pi_enumT (by rfl) T.n_enumerate (pa_cons (pv 2) pa_nil)) (pg_tup (by rfl) (pgs_cons (pg_name (i := 5) sc_parts_row.nd rfl (Or.inl rfl)) (pgs_cons (pg_name (i := 6) sc_parts_row.nd rfl (Or.inl rfl)) pgs_nil))) (pss_cons (ps_set (i := 7) sc_parts_row.nd rfl (Or.inl rfl) (pe_call G_product_at (hr.mono (by omega)) (by rfl) T.m_product_at T.F_product_at.kp T.b_product_at .nil pass0 (pa_cons (pv 1) (pa_cons (pe_slice sl_tupB (pv 2) (po_some (pe_op op_add (pv 5) pe_int)) po_none) pa_nil))))
      (pss_cons (ps_set (i := 4) sc_parts_row.nd rfl (Or.inl rfl) (pe_op op_catB (pv 4) (pe_call G_bunch_row (hr.mono (by omega)) (by rfl) T.m_bunch_row T.F_bunch_row.kp T.b_bunch_row .nil pass0 (pa_cons (pv 0) (pa_cons (pv 1) (pa_cons (pv 6) (pa_cons (pe_op op_fdiv (pv 3) (pv 7)) pa_nil)))))))
      (pss_one (ps_set (i := 3) sc_parts_row.nd rfl (Or.inl rfl) (pe_op op_mod (pv 3) (pv 7)))))))
    (pss_one (ps_ret (pv 4))))), ?_⟩
      refine ⟨by decide, fun t0 ht0 => ?_⟩
      have s0 := Same.new (o := .tup []) ht0
      refine ⟨_, rfl, lp, _, rfl, SqT.of (s0 _ _ hlp), ?_⟩
      refine for_it (walk_enumT (K := K) (a := lp) (xs := nVs ds)) (fun i σ H' => ∃ (k : Nat) (t : Addr) (c rem : List Int) (v5 v6 v7 : Option V), σ = [some (.ref f), some (.ref lm), some (.ref lp), some (nV k), some (.ref t), v5, v6, v7] ∧ Same H H' ∧ H' t = some (.tup (iVs c)) ∧ row = c ++ rem ∧ (prod ((ds.drop i).map (RR B)))[k]? = some rem) ?_ ?_ ?_ ?_
      · exact ⟨num, t0, [], row, none, none, none, rfl, s0, upd_same, rfl, hrow⟩
      · rintro i σ H' hi ⟨k, t, c, rem, v5, v6, v7, _, s, _⟩
        exact SqT.of (s _ _ hlp)
      · rintro i x σ H2 H3 hi ⟨k, t, c, rem, v5, v6, v7, rfl, s2, ht2, hrc, hrem⟩ ⟨tt, y1, y2, rfl, htt, rfl, hy1, hy2⟩
        cases hy1
        obtain ⟨d, hd, rfl⟩ := nVs_some hy2
        obtain ⟨kc, b, hk1, hb, hk2⟩ := hp.at hd
        have s3 := s2.trans (Same.new (o := .tup [nV i, nV d]) htt)
        have ht3 := Same.new (o := .tup [nV i, nV d]) htt _ _ ht2
        refine ⟨tt, _, rfl, SqT.of upd_same, rfl, _, _, rfl, _, _, rfl, rfl, ?_⟩
        generalize (upd H2 tt (.tup [nV i, nV d])) = H3 at s3 ht3 ⊢
        rw [drop_at hd, List.map_cons] at hrem
        have hM : (prod ((ds.drop (i + 1)).map (RR B))).length = prodN (cnt B) (ds.drop (i + 1)) := prod_len B _
        have hML := hp.drop_le g ho (i + 1)
        have hkl : k < (RR B d).length * prodN (cnt B) (ds.drop (i + 1)) := by
          have := (List.getElem?_eq_some_iff.mp hrem).1
          have e : (prod (RR B d :: (ds.drop (i + 1)).map (RR B))).length = (RR B d).length * (prod ((ds.drop (i + 1)).map (RR B))).length := len_cross _ _
          rw [e, hM] at this
          exact this
        have hgc := get_cross (L := RR B d) (M := prod ((ds.drop (i + 1)).map (RR B))) (i := k) (by rw [hM]; exact hkl)
        have hrem2 : (cross (RR B d) (prod ((ds.drop (i + 1)).map (RR B))))[k]? = some rem := hrem
        rw [hgc, hM] at hrem2
        have hq1 : k / prodN (cnt B) (ds.drop (i + 1)) < (RR B d).length := (Nat.div_lt_iff_lt_mul (by omega)).mpr hkl
        have hq2 : k % prodN (cnt B) (ds.drop (i + 1)) < (prod ((ds.drop (i + 1)).map (RR B))).length := by rw [hM]; exact Nat.mod_lt _ (by omega)
        rw [List.getElem?_eq_getElem hq1, List.getElem?_eq_getElem hq2] at hrem2
        have hrem3 := (Option.some.inj hrem2).symm
        simp only [Option.getD_some] at hrem3
        refine ⟨_, rfl, _, rfl, _, rfl, _, _, rfl, rfl, _, rfl, lp, _, rfl, s3 _ _ hlp, fun t4 H4 s4 ht4 => ?_⟩
        rw [cut_n1] at ht4
        have s24 := s3.trans s4
        refine ⟨lm, t4, _, ds.drop (i + 1), rfl, s24 _ _ hm, ht4, hp.drop_lt g (i + 1), ?_⟩
        rw [hp.drop_prod (i + 1)]
        have hrk : rankP ps b.1 ≤ n := by
          rw [← hk2] at hk1
          have := rk_kid g.gp (mem_kids.mp (List.mem_of_getElem? hk1))
          have e : rkO ps (some b.1) = rankP ps b.1 := rfl
          omega
        have e1 : (k : Int) / (prodN (cnt B) (ds.drop (i + 1)) : Nat) = ((k / prodN (cnt B) (ds.drop (i + 1)) : Nat) : Int) := by omega
        refine ⟨_, rfl, _, rfl, _, rfl, _, rfl, _, rfl, _, rfl, _, _, rfl, rfl, ⟨by omega, by omega⟩, f, lm, ps, B, tops, d, b, k / prodN (cnt B) (ds.drop (i + 1)), _, ?_, hW.mono s24, s24 _ _ hm, hb, hrk, List.getElem?_eq_getElem hq1, fun t5 H5 s5 ht5 => ?_⟩
        · show [_, _, _, V.int ((k : Int) / (prodN (cnt B) (ds.drop (i + 1)) : Nat))] ++ [] = _
          rw [e1]
          rfl
        have hc8 : c.length ≤ 8 := by rw [hrc, List.length_append] at hwr; omega
        have hd8 : ((RR B d)[k / prodN (cnt B) (ds.drop (i + 1))]).length ≤ 8 := by
          rw [hrc, hrem3, List.length_append, List.length_append] at hwr
          omega
        refine ⟨t, t5, _, _, rfl, rfl, s5 _ _ (s4 _ _ ht3), ht5, big' (by rw [iVs_len, iVs_len]; omega), fun t6 H6 s6 ht6 => ?_⟩
        refine ⟨_, rfl, _, rfl, _, _, rfl, rfl, by omega, k % prodN (cnt B) (ds.drop (i + 1)), t6, c ++ (RR B d)[k / prodN (cnt B) (ds.drop (i + 1))], (prod ((ds.drop (i + 1)).map (RR B)))[k % prodN (cnt B) (ds.drop (i + 1))], some (nV i), some (nV d), some (nV (prodN (cnt B) (ds.drop (i + 1)))), ?_, s24.trans (s5.trans s6), ?_, ?_, List.getElem?_eq_getElem hq2⟩
        · have e2 : (k : Int) % (prodN (cnt B) (ds.drop (i + 1)) : Nat) = ((k % prodN (cnt B) (ds.drop (i + 1)) : Nat) : Int) := by omega
          show _ = [_, _, _, some (V.int ((k % prodN (cnt B) (ds.drop (i + 1)) : Nat) : Int)), _, _, _, _]
          rw [← e2]
          rfl
        · rw [ht6]
          simp [iVs]
        · rw [hrc, hrem3, List.append_assoc]
      · rintro σ H2 ⟨k, t, c, rem, v5, v6, v7, rfl, s2, ht2, hrc, hrem⟩
        rw [nVs_len, List.drop_length] at hrem
        have er : rem = [] := by
          have : (prod (([] : List Nat).map (RR B)))[k]? = some rem := hrem
          have h1 := List.mem_of_getElem? this
          simpa [prod] using h1
        rw [er, List.append_nil] at hrc
        rw [← hrc] at ht2
        exact ⟨_, rfl, q t H2 s2 ht2⟩
end
end Fb
set_option Elab.async false
set_option linter.all false
set_option maxRecDepth 100000
set_option maxHeartbeats 1000000
/-! How many rows lie below a bound. -/
namespace Fb
open PySem PySem.Spec PyProof.Rows L2
theorem cut_mid {xs : List V} {a b : Nat} (h : a + b ≤ xs.length) : cutV xs (some (a : Int)) (some ((a : Int) + (b : Int))) = (xs.drop a).take b := by
  have e : ((a : Int) + (b : Int)) = ((a + b : Nat) : Int) := by omega
  rw [e]
  unfold cutV
  rw [HT.sIx_nat, HT.sIx_nat, Nat.min_eq_left (show a ≤ xs.length by omega), Nat.min_eq_left h]
  congr 1
  omega
structure FnW (P : Program) (w : World) (C D F : Addr) (H : Hp) (x f lm : Addr) (ps : Prs Str) (B : List Bun) (tops : List Nat) : Prop where
  at_ : ∃ dx, H x = some (.ins F dx [("looked_at", .ref f), ("many", .ref lm)])
  fw : FW P w C D H f ps B tops
  mn : NL H lm (cnts B)
theorem FnW.mono {P : Program} {w : World} {C D F : Addr} {H H' : Hp} {x f lm : Addr} {ps : Prs Str} {B : List Bun} {tops : List Nat} (e : Same H H') (h : FnW P w C D F H x f lm ps B tops) : FnW P w C D F H' x f lm ps B tops :=
  ⟨let ⟨dx, hx⟩ := h.at_; ⟨dx, e _ _ hx⟩, h.fw.mono e, e _ _ h.mn⟩
theorem bl_part {ps : Prs Str} {B : List Bun} (g : GoodB ps B) {o : Option Str} {ds : List Nat} (hp : PartsOk ps B o ds) {i d : Nat} (hd : ds[i]? = some d) {c p : List Int} (hc : c ∈ prod ((ds.take i).map (RR B))) :
    bl (prod ((ds.take (i + 1)).map (RR B))) (c ++ p) = bl (prod ((ds.take i).map (RR B))) c * cnt B d + bl (RR B d) p ∧ ((c ++ p) ∈ prod ((ds.take (i + 1)).map (RR B)) ↔ p ∈ RR B d) := by
  have q := up_prod (f := RR B) (g := wb ps B) (ps := ds.take i) fun x hx => by
    obtain ⟨k, b', hk, hb', rfl⟩ := hp.mem (List.mem_of_mem_take hx)
    exact RR_good g 8 x b' hb' (rank_le g hb').2
  rw [take_at hd, List.map_append, List.map_cons, List.map_nil, prod_snoc]
  constructor
  · rw [bl_cross q.1 q.2 (q.2 c hc), if_pos hc]
    rfl
  · rw [mem_cross_app q.2 (q.2 c hc)]
    exact ⟨fun h => h.2, fun h => ⟨hc, h⟩⟩
theorem bl_rest {ps : Prs Str} {B : List Bun} (g : GoodB ps B) {o : Option Str} {ds : List Nat} (hp : PartsOk ps B o ds) (i : Nat) {c p : List Int} (hcl : c.length = ((ds.take i).map (wb ps B)).sum) (hc : c ∉ prod ((ds.take i).map (RR B))) :
    bl (prod (ds.map (RR B))) (c ++ p) = bl (prod ((ds.take i).map (RR B))) c * prodN (cnt B) (ds.drop i) ∧ (c ++ p) ∉ prod (ds.map (RR B)) := by
  have q := up_prod (f := RR B) (g := wb ps B) (ps := ds.take i) fun x hx => by
    obtain ⟨k, b', hk, hb', rfl⟩ := hp.mem (List.mem_of_mem_take hx)
    exact RR_good g 8 x b' hb' (rank_le g hb').2
  have e : prod (ds.map (RR B)) = cross (prod ((ds.take i).map (RR B))) (prod ((ds.drop i).map (RR B))) := by
    rw [← prod_app, ← List.map_append, List.take_append_drop]
  rw [e]
  constructor
  · rw [bl_cross q.1 q.2 hcl, if_neg hc, prod_len]
    rfl
  · rw [mem_cross_app q.2 hcl]
    exact fun h => hc h.1
section
variable {P : Program} {w : World} {K : PySem.W.Frag} {mg : Str → Option Value} {base : Heap}
abbrev SayT (H : Hp) (Q : VK) (n : Nat) (k : Bool) : Prop := ∀ t H', Same H H' → H' t = some (.tup [nV n, .bl k]) → Q (.ref t) H'
def sp_below_parts (P : Program) (w : World) (C D F : Addr) (n : Nat) : Sp := fun vs H Q _ => ∃ (x f lm lp lr : Addr) (ps : Prs Str) (B : List Bun) (tops : List Nat) (o : Option Str) (ds : List Nat) (r : List Int), vs = [.ref x, .ref lp, .ref lr] ∧ FnW P w C D F H x f lm ps B tops ∧
  (∀ c, o = some c → ∃ q, (c, q) ∈ ps) ∧ rkO ps o ≤ n ∧ PartsOk ps B o ds ∧ NT H lp ds ∧ H lr = some (.tup (iVs r)) ∧ r.length = wids ps o ∧ SayT H Q (bl (prod (ds.map (RR B))) r) (decide (r ∈ prod (ds.map (RR B))))
def sp_below_bunch (P : Program) (w : World) (C D F : Addr) (n : Nat) : Sp := fun vs H Q _ => ∃ (x f lm lr : Addr) (ps : Prs Str) (B : List Bun) (tops : List Nat) (m : Nat) (b : Bun) (r : List Int), vs = [.ref x, nV m, .ref lr] ∧ FnW P w C D F H x f lm ps B tops ∧
  B[m]? = some b ∧ rankP ps b.1 ≤ n ∧ H lr = some (.tup (iVs r)) ∧ r.length = wid ps b.1 ∧ SayT H Q (bl (RR B m) r) (decide (r ∈ RR B m))
theorem ok_below_bunch (T : Txt K mg) (n : Nat) (G_Finder_below_parts : FnOk P w K mg base CX0 (2 * n + 12) T.f_Finder_below_parts T.fd_Finder_below_parts ["self", "parts", "bound"] (sp_below_parts P w T.C_Fold T.C_Tree T.C_Finder n)) :
    FnOk P w K mg base CX0 (2 * n + 13) T.f_Finder_below_bunch T.fd_Finder_below_bunch ["self", "bunch", "bound"] (sp_below_bunch P w T.C_Fold T.C_Tree T.C_Finder n) := by
  have G_product_at : FnOk P w K mg base CX0 1 T.f_product_at T.fd_product_at ["numbers", "parts"] sp_product_at := ok_product_at T
  refine T.F_Finder_below_bunch.ok sc_Finder_below_bunch (fun vs H Q E h => ?_) (fun cdv A outer s H vs Q E hr h => ?_)
  · obtain ⟨_, _, _, _, _, _, _, _, _, _, rfl, _⟩ := h
    rfl
  · obtain ⟨x, f, lm, lr, ps, B, tops, m, b, r, rfl, hF, hb, hk, hlr, hrl, q⟩ := h
    obtain ⟨dfx, hx⟩ := hF.at_
    have hW := hF.fw
    obtain ⟨dx, t, l, r1, hf, hT, hB, hr1⟩ := id hW.fd
    obtain ⟨bv, ta, le, hbv, hbl, hat, hta, ev, hev, hE⟩ := hB.at hb
    have g := hW.g
    have hcn := order_names (g.col m b hb)
    have hup := g.up m b hb
    rw [wid_eq g.gp hcn] at hrl
    obtain ⟨v, r', rfl⟩ : ∃ v r', r = v :: r' := by
      cases r with
      | nil => simp at hrl
      | cons v r' => exact ⟨v, r', rfl⟩
    rw [RR_eq g hb] at q
    have hlr2 : H lr = some (.tup (.int v :: iVs r')) := hlr
    refine ⟨_, (pss_cons (ps_set (i := 3) sc_Finder_below_bunch.nd rfl (Or.inl rfl) pe_int)
    (pss_cons (ps_for PassesOwn.never (by rfl) (pi_list (pe_ix ix_tup (pe_ix ix_list (pe_fld (pe_fld (pv 0) rfl) rfl) (pv 1) (fun _ _ => rfl)) pe_int (fun _ _ => rfl))) (pg_tup (by rfl) (pgs_cons (pg_name (i := 4) sc_Finder_below_bunch.nd rfl (Or.inl rfl)) (pgs_cons (pg_name (i := 5) sc_Finder_below_bunch.nd rfl (Or.inl rfl)) pgs_nil))) (pss_cons (ps_if (pt_cmpR op_eq (pv 4) (pe_ix ix_tup (pv 2) pe_int (fun _ _ => rfl)) (nomark _)) (pss_cons (ps_asg (pe_meth (pv 0) T.cl_Finder T.mt_Finder_below_parts G_Finder_below_parts (hr.mono (by omega)) T.b_Finder_below_parts .nil pass0 (pa_cons (pv 5) (pa_cons (pe_slice sl_tupB (pv 2) (po_some pe_int) po_none) pa_nil))) (pg_tup (by rfl) (pgs_cons (pg_name (i := 6) sc_Finder_below_bunch.nd rfl (Or.inl rfl)) (pgs_cons (pg_name (i := 7) sc_Finder_below_bunch.nd rfl (Or.inl rfl)) pgs_nil))))
        (pss_one (ps_ret (pe_tup (pa_cons (pe_op op_add (pv 3) (pv 6)) (pa_cons (pv 7) pa_nil)))))) pss_nil)
      (pss_cons (ps_if (pt_cmpR op_gt (pv 4) (pe_ix ix_tup (pv 2) pe_int (fun _ _ => rfl)) (nomark _)) (pss_one (ps_ret (pe_tup (pa_cons (pv 3) (pa_cons pe_bl pa_nil))))) pss_nil)
      (pss_one (ps_aug (i := 3) sc_Finder_below_bunch.nd rfl (Or.inl rfl) (pe_call G_product_at (hr.mono (by omega)) (by rfl) T.m_product_at T.F_product_at.kp T.b_product_at .nil pass0 (pa_cons (pe_fld (pv 0) rfl) (pa_cons (pv 5) pa_nil))) ip_add)))))
    (pss_one (ps_ret (pe_tup (pa_cons (pv 3) (pa_cons pe_bl pa_nil))))))), ?_⟩
    refine ⟨_, rfl, x, _, dfx, _, _, rfl, hx, T.cl_Finder, T.na_Finder_looked_at, rfl, f, _, dx, _, _, rfl, hf, T.cl_Fold, T.na_Fold_held, rfl, _, rfl, l, _, _, _, rfl, rfl, SqL.of hbv, atI_nat hat, ta, _, _, _, rfl, rfl, SqT.of hta, rfl, le, rfl, ⟨ev, SqL.of hev⟩, ?_⟩
    have hel := Paired.length hE
    refine for_it (walk_list (K := K) (a := le) (xs := ev)) (fun i σ H' => ∃ (v4 v5 v6 v7 : Option V), σ = [some (.ref x), some (nV m), some (.ref lr), some (nV (bunRows (RR B) (b.2.take i)).length), v4, v5, v6, v7] ∧ H' = H ∧ ∀ e ∈ b.2.take i, e.1 < v) ?_ ?_ ?_ ?_
    · exact ⟨none, none, none, none, rfl, rfl, fun e he => by simp at he⟩
    · rintro i σ H' hi ⟨v4, v5, v6, v7, _, rfl, _⟩
      exact SqL.of hev
    · rintro i z σ H3 H2 hi ⟨v4, v5, v6, v7, rfl, rfl, hlow⟩ ⟨rfl, hz⟩
      obtain ⟨e, he, a1, b1, rfl, h1, h2⟩ := Paired.ofL hE hz
      have hem := List.mem_of_getElem? he
      have hpo := g.parts m b hb e hem
      have hsp := split_at he
      refine ⟨a1, _, rfl, SqT.of h1, rfl, _, _, rfl, _, _, rfl, rfl, ?_⟩
      refine ⟨_, rfl, _, rfl, lr, _, _, _, rfl, rfl, SqT.of hlr2, at0, rfl, _, rfl, ?_⟩
      by_cases hev1 : e.1 = v
      · refine iteD (by rw [hev1]) ?_
        subst hev1
        refine ⟨_, rfl, x, dfx, _, rfl, hx, rfl, _, rfl, _, rfl, _, rfl, lr, _, rfl, hlr2, fun t1 H4 s4 ht1 => ?_⟩
        rw [cut_one] at ht1
        refine ⟨x, f, lm, b1, t1, ps, B, tops, some b.1, e.2, r', rfl, hF.mono s4, (fun c hc => by cases hc; exact hcn), hk, hpo, s4 _ _ h2, ht1, by simpa using hrl, fun t2 H5 s5 ht2 => ?_⟩
        refine ⟨t2, _, rfl, SqT.of ht2, rfl, _, _, rfl, _, _, rfl, rfl, ?_⟩
        refine ⟨_, rfl, _, rfl, _, _, rfl, rfl, _, rfl, big' (by simp), fun t3 ht3 => ?_⟩
        have hba := bun_at (R := RR B) (pre := b.2.take i) (post := b.2.drop (i + 1)) (e := e) (by rw [← hsp]; exact hup) r'
        rw [← hsp] at hba
        refine q t3 _ (s4.trans (s5.trans (Same.new ht3))) ?_
        rw [upd_same, hba.1]
        have e2 : decide ((e.1 :: r') ∈ bunRows (RR B) b.2) = decide (r' ∈ prod (e.2.map (RR B))) := decide_eq_decide.mpr hba.2
        rw [e2]
        simp
      · refine iteDn (fun z => hev1 (by injection z)) ?_
        refine ⟨_, rfl, _, rfl, lr, _, _, _, rfl, rfl, SqT.of hlr2, at0, _, _, rfl, rfl, _, rfl, ?_⟩
        by_cases hgt : v < e.1
        · refine iteD hgt ?_
          refine ⟨_, rfl, big' (by simp), fun t3 ht3 => ?_⟩
          have hbo := bun_out (R := RR B) (pre := b.2.take i) (post := e :: b.2.drop (i + 1)) (v := v) hlow (fun y hy => by
            have hup2 := hup
            rw [hsp] at hup2
            obtain ⟨_, h3, _⟩ := List.pairwise_append.mp hup2
            obtain ⟨h4, _⟩ := List.pairwise_cons.mp h3
            rcases List.mem_cons.mp hy with rfl | hy
            · exact hgt
            · have := h4 y hy
              omega) r'
          rw [← hsp] at hbo
          refine q t3 _ (Same.new ht3) ?_
          rw [upd_same, hbo.1, decide_eq_false hbo.2]
        · refine iteDn hgt ?_
          refine ⟨_, rfl, _, rfl, x, _, dfx, _, _, rfl, hx, T.cl_Finder, T.na_Finder_many, rfl, _, rfl, lm, b1, _, e.2, rfl, hF.mn, h2, parts_lt g hpo, _, _, rfl, rfl, some (.int e.1), some (.ref b1), v6, v7, ?_, rfl, ?_⟩
          · rw [parts_prod hpo]
            have e2 : ((bunRows (RR B) (b.2.take i)).length : Int) + (prodN (cnt B) e.2 : Nat) = (((bunRows (RR B) (b.2.take (i + 1))).length : Nat) : Int) := by
              rw [take_at he, bun_app, List.length_append, bun_cons, bun_nil, List.append_nil, len_ent, prod_len]
              omega
            show _ = [_, _, _, some (V.int (((bunRows (RR B) (b.2.take (i + 1))).length : Nat) : Int)), _, _, _, _]
            rw [← e2]
            rfl
          · intro y hy
            rw [take_at he] at hy
            rcases List.mem_append.mp hy with hy | hy
            · exact hlow y hy
            · rw [List.mem_singleton.mp hy]
              omega
    · rintro σ H2 ⟨v4, v5, v6, v7, rfl, rfl, hlow⟩
      rw [hel, List.take_length] at hlow ⊢
      have hbo := bun_low (R := RR B) hlow r'
      refine ⟨_, rfl, big' (by simp), fun t3 ht3 => ?_⟩
      refine q t3 _ (Same.new ht3) ?_
      rw [upd_same, hbo.1, decide_eq_false hbo.2]
theorem ok_below_parts (T : Txt K mg) : ∀ n, FnOk P w K mg base CX0 (2 * n + 12) T.f_Finder_below_parts T.fd_Finder_below_parts ["self", "parts", "bound"] (sp_below_parts P w T.C_Fold T.C_Tree T.C_Finder n) := by
  have G_product_at : FnOk P w K mg base CX0 1 T.f_product_at T.fd_product_at ["numbers", "parts"] sp_product_at := ok_product_at T
  have G_Fold_tree : FnOk P w K mg base CX0 1 T.f_Fold_tree T.fd_Fold_tree ["self"] (sp_Fold_tree T.C_Fold) := ok_Fold_tree T
  have G_Tree_beneath : FnOk P w K mg base CX0 10 T.f_Tree_beneath T.fd_Tree_beneath ["self", "column"] (sp_Tree_beneath P w T.C_Tree) := ok_Tree_beneath T
  intro n
  induction n with
  | zero =>
    refine T.F_Finder_below_parts.ok sc_Finder_below_parts (fun vs H Q E h => ?_) (fun cdv A outer s H vs Q E hr h => ?_)
    · obtain ⟨_, _, _, _, _, _, _, _, _, _, _, rfl, _⟩ := h
      rfl
    · obtain ⟨x, f, lm, lp, lr, ps, B, tops, o, ds, r, rfl, hF, ho, hk, _⟩ := h
      have := rk_pos hF.fw.g.gp ho
      omega
  | succ n ih =>
    have G_Finder_below_bunch := ok_below_bunch T n ih
    refine T.F_Finder_below_parts.ok sc_Finder_below_parts (fun vs H Q E h => ?_) (fun cdv A outer s H vs Q E hr h => ?_)
    · obtain ⟨_, _, _, _, _, _, _, _, _, _, _, rfl, _⟩ := h
      rfl
    · obtain ⟨x, f, lm, lp, lr, ps, B, tops, o, ds, r, rfl, hF, ho, hk, hp, hlp, hlr, hrl, q⟩ := h
      obtain ⟨dfx, hx⟩ := hF.at_
      have hW := hF.fw
      obtain ⟨dx, t, l, r1, hf, hT, hB, hr1⟩ := id hW.fd
      obtain ⟨dt, d1, d2, d3, ht, _⟩ := id hT
      have g := hW.g
      have hw8 := wids_le g.gp ho
      have hdl : ds.length ≤ 8 := by rw [hp.1]; exact Nat.le_trans kids_le g.gp.le
      refine ⟨_, (pss_cons (ps_set (i := 3) sc_Finder_below_parts.nd rfl (Or.inl rfl) pe_int)
    (pss_cons (ps_setLc (i := 4) (own := [("part", 7)]) (g := gName 7) (by rfl) sc_Finder_below_parts.nd rfl rfl (sw_true rfl rfl rfl (by decide +kernel)) (pi_tup (pv 1)) (blkOk_by (N := N_Finder_below_parts) (sc := defScope s_Finder_below_parts) (by decide +kernel)) (fun _ _ _ _ _ => (pg_name (i := 7) sc_Finder_below_parts.nd rfl (Or.inl rfl))) (fun _ _ _ _ _ => pts_nil) (fun _ _ _ _ _ => (pe_ix (ix_tupK (K := K)) (pe_ix (ix_listK (K := K)) (pe_fldK (K := K) (pe_fldK (K := K) (pv 0) rfl) rfl) (pv 7) (fun _ _ => rfl)) pe_int (fun _ _ => rfl))))
    (pss_cons (ps_set (i := 5) sc_Finder_below_parts.nd rfl (Or.inl rfl) pe_int)
    (pss_cons (ps_for PassesOwn.never (by rfl) (pi_enumT (by rfl) T.n_enumerate (pa_cons (pv 1) pa_nil)) (pg_tup (by rfl) (pgs_cons (pg_name (i := 6) sc_Finder_below_parts.nd rfl (Or.inl rfl)) (pgs_cons (pg_name (i := 7) sc_Finder_below_parts.nd rfl (Or.inl rfl)) pgs_nil))) (pss_cons (ps_set (i := 8) sc_Finder_below_parts.nd rfl (Or.inl rfl) (pe_callB call_len_seq (by rfl) T.n_len PySem.boot_len (pa_cons (pe_meth (pe_meth0 (pe_fld (pv 0) rfl) T.cl_Fold T.mt_Fold_tree G_Fold_tree (hr.mono (by omega)) T.b_Fold_tree .nil pass0) T.cl_Tree T.mt_Tree_beneath G_Tree_beneath (hr.mono (by omega)) T.b_Tree_beneath .nil pass0 (pa_cons (pe_ix ix_list (pv 4) (pv 6) (fun _ _ => rfl)) pa_nil)) pa_nil)))
      (pss_cons (ps_asg (pe_meth (pv 0) T.cl_Finder T.mt_Finder_below_bunch G_Finder_below_bunch (hr.mono (by omega)) T.b_Finder_below_bunch .nil pass0 (pa_cons (pv 7) (pa_cons (pe_slice sl_tupB (pv 2) (po_some (pv 5)) (po_some (pe_op op_add (pv 5) (pv 8)))) pa_nil))) (pg_tup (by rfl) (pgs_cons (pg_name (i := 9) sc_Finder_below_parts.nd rfl (Or.inl rfl)) (pgs_cons (pg_name (i := 10) sc_Finder_below_parts.nd rfl (Or.inl rfl)) pgs_nil))))
      (pss_cons (ps_aug (i := 3) sc_Finder_below_parts.nd rfl (Or.inl rfl) (pe_op op_mul (pv 9) (pe_call G_product_at (hr.mono (by omega)) (by rfl) T.m_product_at T.F_product_at.kp T.b_product_at .nil pass0 (pa_cons (pe_fld (pv 0) rfl) (pa_cons (pe_slice sl_tupB (pv 1) (po_some (pe_op op_add (pv 6) pe_int)) po_none) pa_nil)))) ip_add)
      (pss_cons (ps_if (pt_not (pt_val (pv 10))) (pss_one (ps_ret (pe_tup (pa_cons (pv 3) (pa_cons pe_bl pa_nil))))) pss_nil)
      (pss_one (ps_aug (i := 5) sc_Finder_below_parts.nd rfl (Or.inl rfl) (pv 8) ip_add)))))))
    (pss_one (ps_ret (pe_tup (pa_cons (pv 3) (pa_cons pe_bl pa_nil))))))))), ?_⟩
      refine ⟨_, rfl, lp, rfl, ⟨_, SqT.of hlp⟩, fun D hD => ?_⟩
      refine lc_map (walk_tup (K := K) (a := lp) (xs := nVs ds)) (fun i => (ds[i]?).elim .non fun d => (B[d]?).elim .non fun b => .str b.1) hD (by rw [nVs_len]; omega) (fun H' s => SqT.of (s _ _ hlp)) (fun i z H1 H2 hi s1 y => ?_) fun H1 s1 hD1 => ?_
      · obtain ⟨rfl, hz⟩ := y
        obtain ⟨d, hd, rfl⟩ := nVs_some hz
        obtain ⟨kc, b, hk1, hb, hk2⟩ := hp.at hd
        obtain ⟨bv, ta, le, hbv, hbl, hat, hta, ev, hev, hE⟩ := (hB.mono s1).at hb
        refine ⟨Same.refl _, fun Q' F hq => ⟨rfl, yesI ?_⟩⟩
        have := hq _ (Same.refl _)
        rw [hd] at this
        simp only [Option.elim_some] at this
        rw [hb] at this
        exact ⟨_, rfl, x, _, dfx, _, _, rfl, s1 _ _ hx, T.cl_Finder, T.na_Finder_looked_at, rfl, f, _, dx, _, _, rfl, s1 _ _ hf, T.cl_Fold, T.na_Fold_held, rfl, _, rfl, l, _, _, _, rfl, rfl, SqL.of hbv, atI_nat hat, ta, _, _, _, rfl, rfl, SqT.of hta, rfl, this⟩
      · refine ⟨_, rfl, lp, _, rfl, SqT.of (s1 _ _ hlp), ?_⟩
        refine for_it (walk_enumT (K := K) (a := lp) (xs := nVs ds)) (fun i σ H' => ∃ (c rem : List Int) (v6 v7 v8 v9 v10 : Option V), σ = [some (.ref x), some (.ref lp), some (.ref lr), some (nV (bl (prod ((ds.take i).map (RR B))) c * prodN (cnt B) (ds.drop i))), some (.ref D), some (nV c.length), v6, v7, v8, v9, v10] ∧ Same H1 H' ∧ r = c ++ rem ∧ c ∈ prod ((ds.take i).map (RR B)) ∧ c.length = ((ds.take i).map (wb ps B)).sum) ?_ ?_ ?_ ?_
        · exact ⟨[], r, none, none, none, none, none, by simp [bl, prod, lx]; rfl, Same.refl _, rfl, by simp [prod], rfl⟩
        · rintro i σ H' hi ⟨c, rem, v6, v7, v8, v9, v10, _, s, _⟩
          exact SqT.of (s _ _ (s1 _ _ hlp))
        · rintro i z σ H2 H3 hi ⟨c, rem, v6, v7, v8, v9, v10, rfl, s2, hrc, hc, hcl⟩ ⟨tt, y1, y2, rfl, htt, rfl, hy1, hy2⟩
          cases hy1
          obtain ⟨d, hd, rfl⟩ := nVs_some hy2
          obtain ⟨kc, b, hk1, hb, hk2⟩ := hp.at hd
          have s3 := (s1.trans s2).trans (Same.new (o := .tup [nV i, nV d]) htt)
          have s13 := s2.trans (Same.new (o := .tup [nV i, nV d]) htt)
          refine ⟨tt, _, rfl, SqT.of upd_same, rfl, _, _, rfl, _, _, rfl, rfl, ?_⟩
          generalize (upd H2 tt (.tup [nV i, nV d])) = H3 at s3 s13 ⊢
          have hcn := order_names (g.col d b hb)
          have hDi : ((List.range (nVs ds).length).map fun i => (ds[i]?).elim V.non fun d => (B[d]?).elim V.non fun b => V.str b.1)[i]? = some (.str b.1) := by
            rw [List.getElem?_map, List.getElem?_range (by rw [nVs_len]; exact (List.getElem?_eq_some_iff.mp hd).1)]
            simp [hd, hb]
          refine ⟨_, rfl, x, _, dfx, _, _, rfl, s3 _ _ hx, T.cl_Finder, T.na_Finder_looked_at, rfl, f, dx, _, rfl, s3 _ _ hf, rfl, f, dx, t, l, .ref r1, rfl, s3 _ _ hf, t, dt, _, rfl, s3 _ _ ht, rfl, _, rfl, _, rfl, D, _, _, _, rfl, rfl, SqL.of (s13 _ _ hD1), atI_nat hDi, t, ps, b.1, rfl, hT.mono s3, g.gp, hW.nm.of hcn, hcn, fun lo H4 hlo0 s4 hlo => ?_⟩
          refine ⟨lo, _, rfl, .inl (SqL.of hlo), ?_⟩
          have hwl : (sVs (ben ps 8 b.1)).length = wid ps b.1 := sVs_len _
          rw [hwl]
          have s34 := s3.trans s4
          have hsum : ((ds.take (i + 1)).map (wb ps B)).sum = ((ds.take i).map (wb ps B)).sum + wid ps b.1 := by
            rw [take_at hd, List.map_append, List.sum_append]
            simp [wb_eq hb]
          have hle1 : ((ds.take (i + 1)).map (wb ps B)).sum ≤ wids ps o := by
            rw [← hp.sum]
            have := congrArg (fun l => (l.map (wb ps B)).sum) (List.take_append_drop (i + 1) ds)
            simp only [List.map_append, List.sum_append] at this
            omega
          have hreml : wid ps b.1 ≤ rem.length := by
            have := congrArg List.length hrc
            rw [List.length_append] at this
            omega
          have ecut : cutV (iVs r) (some (c.length : Int)) (some ((c.length : Int) + (wid ps b.1 : Int))) = iVs (rem.take (wid ps b.1)) := by
            rw [cut_mid (by rw [iVs_len]; omega), hrc]
            unfold iVs
            rw [List.map_append, List.drop_append_of_le_length (by simp), List.drop_of_length_le (by simp), List.nil_append, List.map_take]
          refine ⟨_, rfl, x, dfx, _, rfl, s34 _ _ hx, rfl, _, rfl, _, rfl, _, rfl, _, rfl, _, rfl, _, rfl, _, _, rfl, rfl, _, rfl, lr, _, rfl, s34 _ _ hlr, fun t1 H5 s5 ht1 => ?_⟩
          rw [ecut] at ht1
          have s35 := s34.trans s5
          have hrk : rankP ps b.1 ≤ n := by
            rw [← hk2] at hk1
            have := rk_kid g.gp (mem_kids.mp (List.mem_of_getElem? hk1))
            have e : rkO ps (some b.1) = rankP ps b.1 := rfl
            omega
          refine ⟨x, f, lm, t1, ps, B, tops, d, b, rem.take (wid ps b.1), rfl, hF.mono s35, hb, hrk, ht1, by rw [List.length_take]; omega, fun t2 H6 s6 ht2 => ?_⟩
          have s36 := s35.trans s6
          refine ⟨t2, _, rfl, SqT.of ht2, rfl, _, _, rfl, _, _, rfl, rfl, ?_⟩
          refine ⟨_, rfl, _, rfl, _, rfl, x, _, dfx, _, _, rfl, s36 _ _ hx, T.cl_Finder, T.na_Finder_many, rfl, _, rfl, _, rfl, _, _, rfl, rfl, _, rfl, lp, _, rfl, s36 _ _ hlp, fun t3 H7 s7 ht3 => ?_⟩
          rw [cut_n1] at ht3
          have s37 := s36.trans s7
          refine ⟨lm, t3, _, ds.drop (i + 1), rfl, s37 _ _ hF.mn, ht3, hp.drop_lt g (i + 1), ?_⟩
          rw [hp.drop_prod (i + 1)]
          have hML := hp.drop_le g ho (i + 1)
          refine ⟨_, _, rfl, rfl, cmul_r (by omega), _, _, rfl, rfl, ?_⟩
          have hbp := bl_part g hp hd (p := rem.take (wid ps b.1)) hc
          have hMi : prodN (cnt B) (ds.drop i) = cnt B d * prodN (cnt B) (ds.drop (i + 1)) := by rw [drop_at hd, prodN_cons]
          have e3 : ((bl (prod ((ds.take i).map (RR B))) c * prodN (cnt B) (ds.drop i) : Nat) : Int) + (bl (RR B d) (rem.take (wid ps b.1)) : Nat) * (prodN (cnt B) (ds.drop (i + 1)) : Nat) = ((bl (prod ((ds.take (i + 1)).map (RR B))) (c ++ rem.take (wid ps b.1)) * prodN (cnt B) (ds.drop (i + 1)) : Nat) : Int) := by
            rw [hbp.1, hMi, Nat.add_mul, Nat.mul_assoc]
            simp only [Int.natCast_add, Int.natCast_mul]
          have hcp : (c ++ rem.take (wid ps b.1)).length = ((ds.take (i + 1)).map (wb ps B)).sum := by
            rw [List.length_append, List.length_take, hsum, hcl]
            omega
          have hrc2 : r = (c ++ rem.take (wid ps b.1)) ++ rem.drop (wid ps b.1) := by
            rw [List.append_assoc, List.take_append_drop]
            exact hrc
          refine ⟨_, rfl, _, rfl, ?_⟩
          by_cases hmem : rem.take (wid ps b.1) ∈ RR B d
          · rw [decide_eq_true hmem]
            refine ⟨_, rfl, _, rfl, _, _, rfl, rfl, c ++ rem.take (wid ps b.1), rem.drop (wid ps b.1), some (nV i), some (nV d), some (nV (wid ps b.1)), some (nV (bl (RR B d) (rem.take (wid ps b.1)))), some (.bl true), ?_, s13.trans (s4.trans (s5.trans (s6.trans s7))), hrc2, hbp.2.mpr hmem, hcp⟩
            have e4 : (c.length : Int) + (wid ps b.1 : Int) = (((c ++ rem.take (wid ps b.1)).length : Nat) : Int) := by
              rw [hcp, hsum, hcl]
              omega
            show _ = [_, _, _, some (V.int ((bl (prod ((ds.take (i + 1)).map (RR B))) (c ++ rem.take (wid ps b.1)) * prodN (cnt B) (ds.drop (i + 1)) : Nat) : Int)), _, some (V.int (((c ++ rem.take (wid ps b.1)).length : Nat) : Int)), _, _, _, _, _]
            rw [← e3, ← e4]
            rfl
          · rw [decide_eq_false hmem]
            refine ⟨_, rfl, big' (by simp), fun t4 ht4 => ?_⟩
            have hbr := bl_rest g hp (i + 1) (p := rem.drop (wid ps b.1)) hcp (fun h => hmem (hbp.2.mp h))
            rw [← hrc2] at hbr
            refine q t4 _ (s37.trans (Same.new ht4)) ?_
            rw [upd_same, hbr.1, decide_eq_false hbr.2]
            show some (HO.tup [V.int _, _]) = some (HO.tup [V.int _, _])
            rw [← e3]
        · rintro σ H2 ⟨c, rem, v6, v7, v8, v9, v10, rfl, s2, hrc, hc, hcl⟩
          rw [nVs_len, List.take_length] at hc hcl
          rw [hp.sum] at hcl
          have er : rem = [] := by
            have := congrArg List.length hrc
            rw [List.length_append] at this
            exact List.length_eq_zero_iff.mp (by omega)
          subst er
          rw [List.append_nil] at hrc
          subst hrc
          refine ⟨_, rfl, big' (by simp), fun t3 ht3 => ?_⟩
          refine q t3 _ ((s1.trans s2).trans (Same.new ht3)) ?_
          rw [upd_same, nVs_len, List.take_length, List.drop_length, decide_eq_true hc]
          simp [prodN]
end
end Fb
set_option Elab.async false
set_option linter.all false
set_option maxRecDepth 100000
set_option maxHeartbeats 1000000
/-! Orders. -/
namespace Fb
open PySem PySem.Spec PyProof.Rows L2
section
variable {P : Program} {w : World} {K : PySem.W.Frag} {mg : Str → Option Value} {base : Heap}
theorem Same.make {H : Hp} {x dx : Addr} {o u : HO} (hx : H x = none) (hdx : H dx = none) (hne : dx ≠ x) : Same H (upd (upd H dx o) x u) :=
  (Same.new hdx).trans (Same.new (by rw [upd_ne (Ne.symm hne)]; exact hx))
theorem Off.made {H H1 : Hp} {x : Addr} (h : Off [x] H H1) (hx : H x = none) : Same H H1 := fun b o e => h b o (by
  intro m
  rw [List.mem_singleton.mp m, hx] at e
  cases e) e
/-- made anew: all else stands -/
theorem Made.same {H H' : Hp} {x dx : Addr} {o u : HO} (hx : H x = none) (hdx : H dx = none) (hne : dx ≠ x) (h : Off [x] (upd (upd H dx o) x u) H') : Same H H' := fun b v e => by
  have hb : b ≠ x := fun z => by rw [z, hx] at e; cases e
  exact h b v (by simpa using hb) (Same.make hx hdx hne _ _ e)
def sp_row_at (P : Program) (w : World) (C D : Addr) : Sp := fun vs H Q _ => ∃ (f : Addr) (ps : Prs Str) (B : List Bun) (tops : List Nat) (num : Nat) (row : List Int), vs = [.ref f, nV num] ∧ FW P w C D H f ps B tops ∧ (AllR B tops)[num]? = some row ∧ BackT H Q (iVs row)
theorem ok_row_at (T : Txt K mg) : FnOk P w K mg base CX0 21 T.f_row_at T.fd_row_at ["fold", "number"] (sp_row_at P w T.C_Fold T.C_Tree) := by
  have G_is_value : FnOk P w K mg base CX0 1 T.f_is_value T.fd_is_value ["thing"] sp_is_value := ok_is_value T
  have G_Fold_count : FnOk P w K mg base CX0 4 T.f_Fold_count T.fd_Fold_count ["self"] (sp_Fold_count P w T.C_Fold T.C_Tree) := ok_Fold_count T
  have G_counts_of : FnOk P w K mg base CX0 3 T.f_counts_of T.fd_counts_of ["fold"] (sp_counts_of P w T.C_Fold T.C_Tree) := ok_counts_of T
  have G_Fold_tops : FnOk P w K mg base CX0 1 T.f_Fold_tops T.fd_Fold_tops ["self"] (sp_Fold_tops T.C_Fold) := ok_Fold_tops T
  have G_parts_row : FnOk P w K mg base CX0 20 T.f_parts_row T.fd_parts_row ["fold", "many", "parts", "number"] (sp_parts_row P w T.C_Fold T.C_Tree 9) := ok_parts_row T 9
  refine T.F_row_at.ok sc_row_at (fun vs H Q E h => ?_) (fun cdv A outer s H vs Q E hr h => ?_)
  · obtain ⟨_, _, _, _, _, _, rfl, _⟩ := h
    rfl
  · obtain ⟨f, ps, B, tops, num, row, rfl, hW, hrow, q⟩ := h
    obtain ⟨dx, t, l, r1, hf, hT, hB, hr1⟩ := id hW.fd
    have hlt := (List.getElem?_eq_some_iff.mp hrow).1
    refine ⟨_, (pss_cons (ps_if (PW.pt (pw_or (pt_not (pt_val (pe_call G_is_value (hr.mono (by omega)) (by rfl) T.m_is_value T.F_is_value.kp T.b_is_value .nil pass0 (pa_cons (pv 1) pa_nil)))) (pw_or1 (pt_not (pt_chain op_le op_lt pe_int (pv 1) (pe_meth0 (pv 0) T.cl_Fold T.mt_Fold_count G_Fold_count (hr.mono (by omega)) T.b_Fold_count .nil pass0)))))) (pss_one ps_never) pss_nil)
    (pss_one (ps_ret (pe_call G_parts_row (hr.mono (by omega)) (by rfl) T.m_parts_row T.F_parts_row.kp T.b_parts_row .nil pass0 (pa_cons (pv 0) (pa_cons (pe_call G_counts_of (hr.mono (by omega)) (by rfl) T.m_counts_of T.F_counts_of.kp T.b_counts_of .nil pass0 (pa_cons (pv 0) pa_nil)) (pa_cons (pe_meth0 (pv 0) T.cl_Fold T.mt_Fold_tops G_Fold_tops (hr.mono (by omega)) T.b_Fold_tops .nil pass0) (pa_cons (pv 1) pa_nil)))))))), ?_⟩
    refine ⟨_, rfl, num, rfl, true, rfl, ?_⟩
    refine ⟨_, rfl, _, _, rfl, rfl, _, rfl, ?_⟩
    refine iteD (by omega) ?_
    refine ⟨_, rfl, f, dx, _, rfl, hf, rfl, f, ps, B, tops, rfl, hW, fun H1 s1 => ?_⟩
    refine ⟨_, _, rfl, rfl, _, rfl, ?_⟩
    rw [decide_eq_true (show ((num : Int) < ((AllR B tops).length : Nat)) by omega)]
    refine ⟨_, rfl, _, rfl, f, ps, B, tops, rfl, hW.mono s1, fun lm H2 hm0 s2 hm => ?_⟩
    have s12 := s1.trans s2
    refine ⟨_, rfl, f, dx, _, rfl, s12 _ _ hf, rfl, f, dx, t, l, r1, rfl, s12 _ _ hf, ?_⟩
    exact ⟨_, rfl, f, lm, r1, ps, B, tops, none, tops, num, row, rfl, hW.mono s12, hm, (fun c e => by cases e), Nat.le_refl 9, hW.tp, s12 _ _ hr1, hrow, fun t H3 s3 ht => q t H3 (s12.trans s3) ht⟩
def sp_Finder_init (P : Program) (w : World) (C D F : Addr) : Sp := fun vs H Q _ => ∃ (x dx f : Addr) (ps : Prs Str) (B : List Bun) (tops : List Nat), vs = [.ref x, .ref f] ∧ H x = some (.ins F dx []) ∧ FW P w C D H f ps B tops ∧ ∀ lm H', FnW P w C D F H' x f lm ps B tops → Off [x] H H' → Q .non H'
theorem ins_ne {P : Program} {w : World} {C D : Addr} {H : Hp} {f x : Addr} {ps : Prs Str} {B : List Bun} {tops : List Nat} {F dx : Addr} {fs : List (Str × V)} (h : FW P w C D H f ps B tops) (hx : H x = some (.ins F dx fs)) (hfs : fs.length < 3) {o : HO} : FW P w C D (upd H x o) f ps B tops := by
  obtain ⟨dx', t, l, r1, hf, ⟨dt, d1, d2, d3, ht, hd1, ⟨kvs, hk1, hk2⟩, hd3⟩, ⟨bv, hl, hP⟩, hr1⟩ := h.fd
  have e : ∀ {b : Addr} {u : HO}, H b = some u → u ≠ .ins F dx fs → (upd H x o) b = some u := fun {b u} hb hu => by
    rw [upd_ne (fun z => hu (by rw [z, hx] at hb; exact (Option.some.inj hb).symm))]
    exact hb
  have n3 : ∀ {C dx' : Addr} {a b c : Str × V}, HO.ins C dx' [a, b, c] ≠ .ins F dx fs := fun z => by
    injection z with _ _ z
    rw [← z] at hfs
    simp at hfs
  refine ⟨⟨dx', t, l, r1, e hf n3, ⟨dt, d1, d2, d3, e ht n3, e hd1 (by simp), ⟨kvs, e hk1 (by unfold LfO; simp), fun o ho => ?_⟩, e hd3 (by simp)⟩, ⟨bv, e hl (by simp), Paired.mapP hP fun v b hv => ?_⟩, e hr1 (by simp)⟩, h.g, h.nm, h.tp, h.le⟩
  · obtain ⟨l, h1, h2⟩ := hk2 o ho
    exact ⟨l, h1, e h2 (by simp)⟩
  · obtain ⟨a, l, rfl, h1, vs, h2, h3⟩ := hv
    refine ⟨a, l, rfl, e h1 (by simp), vs, e h2 (by simp), Paired.mapP h3 fun v b hv => ?_⟩
    obtain ⟨a, b, rfl, h1, h2⟩ := hv
    exact ⟨a, b, rfl, e h1 (by simp), e h2 (by simp)⟩
theorem ok_Finder_init (T : Txt K mg) : FnOk P w K mg base CX0 4 T.f_Finder_init T.fd_Finder_init ["self", "fold"] (sp_Finder_init P w T.C_Fold T.C_Tree T.C_Finder) := by
  have G_counts_of : FnOk P w K mg base CX0 3 T.f_counts_of T.fd_counts_of ["fold"] (sp_counts_of P w T.C_Fold T.C_Tree) := ok_counts_of T
  refine T.F_Finder_init.ok sc_Finder_init (fun vs H Q E h => ?_) (fun cdv A outer s H vs Q E hr h => ?_)
  · obtain ⟨_, _, _, _, _, _, rfl, _⟩ := h
    rfl
  · obtain ⟨x, dx, f, ps, B, tops, rfl, hx, hW, q⟩ := h
    refine ⟨_, (pss_cons (ps_fld (pv 0) (pv 1) rfl)
    (pss_one (ps_fld (pv 0) (pe_call G_counts_of (hr.mono (by omega)) (by rfl) T.m_counts_of T.F_counts_of.kp T.b_counts_of .nil pass0 (pa_cons (pv 1) pa_nil)) rfl))), ?_⟩
    refine ⟨_, rfl, _, rfl, x, _, dx, [], rfl, hx, T.cl_Finder, T.na_Finder_looked_at, by simp, ?_⟩
    have hW1 := ins_ne hW hx (by simp) (o := .ins T.C_Finder dx (putF "looked_at" (.ref f) []))
    refine ⟨_, rfl, f, ps, B, tops, rfl, hW1, fun lm H2 hm0 s2 hm => ?_⟩
    have hx2 := s2 _ _ (upd_same (H := H) (a := x) (o := .ins T.C_Finder dx (putF "looked_at" (.ref f) [])))
    refine ⟨_, rfl, x, _, dx, [("looked_at", .ref f)], rfl, hx2, T.cl_Finder, T.na_Finder_many, by simp, ?_⟩
    have hlmx : lm ≠ x := fun e => by rw [e, hx2] at hm; cases hm
    refine q lm _ ⟨⟨dx, upd_same⟩, ins_ne (hW1.mono s2) hx2 (by simp [putF]), (upd_ne hlmx).trans hm⟩ fun b u hb e => ?_
    have hb' : b ≠ x := by simpa using hb
    rw [upd_ne hb']
    refine s2 _ _ ?_
    rw [upd_ne hb']
    exact e
def sp_Finder_below (P : Program) (w : World) (C D F : Addr) : Sp := fun vs H Q _ => ∃ (x f lm lr : Addr) (ps : Prs Str) (B : List Bun) (tops : List Nat) (r : List Int), vs = [.ref x, .ref lr] ∧ FnW P w C D F H x f lm ps B tops ∧ H lr = some (.tup (iVs r)) ∧ r.length = (order ps).length ∧ SayT H Q (bl (AllR B tops) r) (decide (r ∈ AllR B tops))
theorem ok_Finder_below (T : Txt K mg) : FnOk P w K mg base CX0 31 T.f_Finder_below T.fd_Finder_below ["self", "bound"] (sp_Finder_below P w T.C_Fold T.C_Tree T.C_Finder) := by
  have G_Fold_tops : FnOk P w K mg base CX0 1 T.f_Fold_tops T.fd_Fold_tops ["self"] (sp_Fold_tops T.C_Fold) := ok_Fold_tops T
  have G_Finder_below_parts : FnOk P w K mg base CX0 30 T.f_Finder_below_parts T.fd_Finder_below_parts ["self", "parts", "bound"] (sp_below_parts P w T.C_Fold T.C_Tree T.C_Finder 9) := ok_below_parts T 9
  refine T.F_Finder_below.ok sc_Finder_below (fun vs H Q E h => ?_) (fun cdv A outer s H vs Q E hr h => ?_)
  · obtain ⟨_, _, _, _, _, _, _, _, rfl, _⟩ := h
    rfl
  · obtain ⟨x, f, lm, lr, ps, B, tops, r, rfl, hF, hlr, hrl, q⟩ := h
    obtain ⟨dfx, hx⟩ := hF.at_
    have hW := hF.fw
    obtain ⟨dx, t, l, r1, hf, hT, hB, hr1⟩ := id hW.fd
    refine ⟨_, (pss_cons (ps_if (pt_cmpR op_isN (pe_meth0 (pe_fld (pv 0) rfl) T.cl_Fold T.mt_Fold_tops G_Fold_tops (hr.mono (by omega)) T.b_Fold_tops .nil pass0) pe_non (nomark _)) (pss_one (ps_ret (pe_tup (pa_cons pe_int (pa_cons pe_bl pa_nil))))) pss_nil)
    (pss_one (ps_ret (pe_meth (pv 0) T.cl_Finder T.mt_Finder_below_parts G_Finder_below_parts (hr.mono (by omega)) T.b_Finder_below_parts .nil pass0 (pa_cons (pe_meth0 (pe_fld (pv 0) rfl) T.cl_Fold T.mt_Fold_tops G_Fold_tops (hr.mono (by omega)) T.b_Fold_tops .nil pass0) (pa_cons (pv 1) pa_nil)))))), ?_⟩
    refine ⟨_, rfl, x, _, dfx, _, _, rfl, hx, T.cl_Finder, T.na_Finder_looked_at, rfl, f, dx, _, rfl, hf, rfl, f, dx, t, l, r1, rfl, hf, rfl, _, rfl, ?_⟩
    refine ⟨_, rfl, x, dfx, _, rfl, hx, rfl, _, rfl, x, _, dfx, _, _, rfl, hx, T.cl_Finder, T.na_Finder_looked_at, rfl, f, dx, _, rfl, hf, rfl, f, dx, t, l, r1, rfl, hf, ?_⟩
    exact ⟨_, rfl, x, f, lm, r1, lr, ps, B, tops, none, tops, r, rfl, hF, (fun c e => by cases e), Nat.le_refl 9, hW.tp, hr1, hlr, by rw [hrl, order_len], q⟩
def sp_place_of (P : Program) (w : World) (C D : Addr) : Sp := fun vs H Q _ => ∃ (f lr : Addr) (ps : Prs Str) (B : List Bun) (tops : List Nat) (r : List Int), vs = [.ref f, .ref lr] ∧ FW P w C D H f ps B tops ∧ H lr = some (.tup (iVs r)) ∧ r ∈ AllR B tops ∧ BackV H Q (nV (bl (AllR B tops) r))
theorem all_w {ps : Prs Str} {B : List Bun} {tops : List Nat} (g : GoodB ps B) (tp : PartsOk ps B none tops) {r : List Int} (h : r ∈ AllR B tops) : r.length = (order ps).length := by
  rw [(prod_good g tp).2 r h, order_len]
theorem ok_place_of (T : Txt K mg) : FnOk P w K mg base CX0 32 T.f_place_of T.fd_place_of ["fold", "row"] (sp_place_of P w T.C_Fold T.C_Tree) := by
  have G_is_row : FnOk P w K mg base CX0 2 T.f_is_row T.fd_is_row ["thing", "many"] sp_is_row := ok_is_row T
  have G_Tree_len : FnOk P w K mg base CX0 1 T.f_Tree_len T.fd_Tree_len ["self"] (sp_Tree_len P w T.C_Tree) := ok_Tree_len T
  have G_Fold_tree : FnOk P w K mg base CX0 1 T.f_Fold_tree T.fd_Fold_tree ["self"] (sp_Fold_tree T.C_Fold) := ok_Fold_tree T
  have G_Finder_init : FnOk P w K mg base CX0 4 T.f_Finder_init T.fd_Finder_init ["self", "fold"] (sp_Finder_init P w T.C_Fold T.C_Tree T.C_Finder) := ok_Finder_init T
  have G_Finder_below : FnOk P w K mg base CX0 31 T.f_Finder_below T.fd_Finder_below ["self", "bound"] (sp_Finder_below P w T.C_Fold T.C_Tree T.C_Finder) := ok_Finder_below T
  refine T.F_place_of.ok sc_place_of (fun vs H Q E h => ?_) (fun cdv A outer s H vs Q E hr h => ?_)
  · obtain ⟨_, _, _, _, _, _, rfl, _⟩ := h
    rfl
  · obtain ⟨f, lr, ps, B, tops, r, rfl, hW, hlr, hmem, q⟩ := h
    obtain ⟨dx, t, l, r1, hf, hT, hB, hr1⟩ := id hW.fd
    obtain ⟨dt, d1, d2, d3, ht, _⟩ := id hT
    have hol := order_le hW.g.gp
    have hrl := all_w hW.g hW.tp hmem
    refine ⟨_, (pss_cons (ps_if (pt_not (pt_val (pe_call G_is_row (hr.mono (by omega)) (by rfl) T.m_is_row T.F_is_row.kp T.b_is_row .nil pass0 (pa_cons (pv 1) (pa_cons (pe_callB (call_len_own T.mt_Tree_len G_Tree_len (hr.mono (by omega)) T.b_Tree_len pass0) (by rfl) T.n_len PySem.boot_len (pa_cons (pe_meth0 (pv 0) T.cl_Fold T.mt_Fold_tree G_Fold_tree (hr.mono (by omega)) T.b_Fold_tree .nil pass0) pa_nil)) pa_nil))))) (pss_one (ps_ret pe_non)) pss_nil)
    (pss_cons (ps_asg (pe_meth (pe_make T.M_Finder G_Finder_init (hr.mono (by omega)) (by rfl) T.mC_Finder T.b_Finder_init .nil pass0 (pa_cons (pv 0) pa_nil)) T.cl_Finder T.mt_Finder_below G_Finder_below (hr.mono (by omega)) T.b_Finder_below .nil pass0 (pa_cons (pv 1) pa_nil)) (pg_tup (by rfl) (pgs_cons (pg_name (i := 2) sc_place_of.nd rfl (Or.inl rfl)) (pgs_cons (pg_name (i := 3) sc_place_of.nd rfl (Or.inl rfl)) pgs_nil))))
    (pss_cons (ps_if (pt_val (pv 3)) (pss_one (ps_ret (pv 2))) pss_nil)
    (pss_one (ps_ret pe_non))))), ?_⟩
    refine ⟨_, rfl, _, rfl, f, dx, _, rfl, hf, rfl, f, dx, t, l, .ref r1, rfl, hf, t, dt, _, rfl, ht, t, ps, rfl, hT, _, rfl, by omega, by omega, lr, r, _, rfl, hlr, by omega, by omega, fun H1 s1 => ⟨true, rfl, ?_⟩⟩
    refine ⟨_, rfl, fun x dfx hx0 hdx0 hne => ?_⟩
    have s2 := Same.make (o := .own x) (u := .ins T.C_Finder dfx []) hx0 hdx0 hne
    refine ⟨x, dfx, f, ps, B, tops, rfl, upd_same, (hW.mono s1).mono s2, fun lm H3 hF3 o3 => ⟨rfl, ?_⟩⟩
    have s3 := s1.trans (Made.same hx0 hdx0 hne o3)
    obtain ⟨dfx', hx3⟩ := hF3.at_
    refine ⟨x, dfx', _, rfl, hx3, rfl, _, rfl, x, f, lm, lr, ps, B, tops, r, rfl, hF3, s3 _ _ hlr, hrl, fun t2 H4 s4 ht2 => ?_⟩
    refine ⟨t2, _, rfl, SqT.of ht2, rfl, _, _, rfl, _, _, rfl, rfl, ?_⟩
    rw [decide_eq_true hmem]
    exact ⟨_, rfl, _, rfl, _, rfl, q H4 (s3.trans s4)⟩
def sp_first_from (P : Program) (w : World) (C D : Addr) : Sp := fun vs H Q _ => ∃ (f lr : Addr) (ps : Prs Str) (B : List Bun) (tops : List Nat) (r : List Int), vs = [.ref f, .ref lr] ∧ FW P w C D H f ps B tops ∧ H lr = some (.tup (iVs r)) ∧ r.length = (order ps).length ∧
  (bl (AllR B tops) r = (AllR B tops).length → BackV H Q .non) ∧ ∀ row, (AllR B tops)[bl (AllR B tops) r]? = some row → ∀ t tr H', Same H H' → H' t = some (.tup [nV (bl (AllR B tops) r), .ref tr]) → H' tr = some (.tup (iVs row)) → Q (.ref t) H'
theorem ok_first_from (T : Txt K mg) : FnOk P w K mg base CX0 32 T.f_first_from T.fd_first_from ["fold", "row"] (sp_first_from P w T.C_Fold T.C_Tree) := by
  have G_want_row : FnOk P w K mg base CX0 3 T.f_want_row T.fd_want_row ["thing", "many", "at"] sp_want_row := ok_want_row T
  have G_Tree_len : FnOk P w K mg base CX0 1 T.f_Tree_len T.fd_Tree_len ["self"] (sp_Tree_len P w T.C_Tree) := ok_Tree_len T
  have G_Fold_tree : FnOk P w K mg base CX0 1 T.f_Fold_tree T.fd_Fold_tree ["self"] (sp_Fold_tree T.C_Fold) := ok_Fold_tree T
  have G_Fold_count : FnOk P w K mg base CX0 4 T.f_Fold_count T.fd_Fold_count ["self"] (sp_Fold_count P w T.C_Fold T.C_Tree) := ok_Fold_count T
  have G_row_at : FnOk P w K mg base CX0 21 T.f_row_at T.fd_row_at ["fold", "number"] (sp_row_at P w T.C_Fold T.C_Tree) := ok_row_at T
  have G_Finder_init : FnOk P w K mg base CX0 4 T.f_Finder_init T.fd_Finder_init ["self", "fold"] (sp_Finder_init P w T.C_Fold T.C_Tree T.C_Finder) := ok_Finder_init T
  have G_Finder_below : FnOk P w K mg base CX0 31 T.f_Finder_below T.fd_Finder_below ["self", "bound"] (sp_Finder_below P w T.C_Fold T.C_Tree T.C_Finder) := ok_Finder_below T
  obtain ⟨dv, V_want_row2, B_want_row2⟩ := bnd_want2 T
  refine T.F_first_from.ok sc_first_from (fun vs H Q E h => ?_) (fun cdv A outer s H vs Q E hr h => ?_)
  · obtain ⟨_, _, _, _, _, _, rfl, _⟩ := h
    rfl
  · obtain ⟨f, lr, ps, B, tops, r, rfl, hW, hlr, hrl, q0, q⟩ := h
    obtain ⟨dx, t, l, r1, hf, hT, hB, hr1⟩ := id hW.fd
    obtain ⟨dt, d1, d2, d3, ht, _⟩ := id hT
    have hol := order_le hW.g.gp
    refine ⟨_, (pss_cons (ps_expr (pe_call G_want_row (hr.mono (by omega)) (by rfl) T.m_want_row T.F_want_row.kp B_want_row2 V_want_row2 pass0 (pa_cons (pv 1) (pa_cons (pe_callB (call_len_own T.mt_Tree_len G_Tree_len (hr.mono (by omega)) T.b_Tree_len pass0) (by rfl) T.n_len PySem.boot_len (pa_cons (pe_meth0 (pv 0) T.cl_Fold T.mt_Fold_tree G_Fold_tree (hr.mono (by omega)) T.b_Fold_tree .nil pass0) pa_nil)) pa_nil))))
    (pss_cons (ps_asg (pe_meth (pe_make T.M_Finder G_Finder_init (hr.mono (by omega)) (by rfl) T.mC_Finder T.b_Finder_init .nil pass0 (pa_cons (pv 0) pa_nil)) T.cl_Finder T.mt_Finder_below G_Finder_below (hr.mono (by omega)) T.b_Finder_below .nil pass0 (pa_cons (pv 1) pa_nil)) (pg_tup (by rfl) (pgs_cons (pg_name (i := 2) sc_first_from.nd rfl (Or.inl rfl)) (pgs_cons (pg_name (i := 3) sc_first_from.nd rfl (Or.inl rfl)) pgs_nil))))
    (pss_cons (ps_if (pt_cmpR op_eq (pv 2) (pe_meth0 (pv 0) T.cl_Fold T.mt_Fold_count G_Fold_count (hr.mono (by omega)) T.b_Fold_count .nil pass0) (nomark _)) (pss_one (ps_ret pe_non)) pss_nil)
    (pss_one (ps_ret (pe_tup (pa_cons (pv 2) (pa_cons (pe_call G_row_at (hr.mono (by omega)) (by rfl) T.m_row_at T.F_row_at.kp T.b_row_at .nil pass0 (pa_cons (pv 0) (pa_cons (pv 2) pa_nil))) pa_nil)))))))), ?_⟩
    refine ⟨_, rfl, _, rfl, f, dx, _, rfl, hf, rfl, f, dx, t, l, .ref r1, rfl, hf, t, dt, _, rfl, ht, t, ps, rfl, hT, _, rfl, by omega, by omega, lr, r, _, _, rfl, hlr, by omega, by omega, fun H1 s1 => ?_⟩
    refine ⟨_, rfl, fun x dfx hx0 hdx0 hne => ?_⟩
    have s2 := Same.make (o := .own x) (u := .ins T.C_Finder dfx []) hx0 hdx0 hne
    refine ⟨x, dfx, f, ps, B, tops, rfl, upd_same, (hW.mono s1).mono s2, fun lm H3 hF3 o3 => ⟨rfl, ?_⟩⟩
    have s3 := s1.trans (Made.same hx0 hdx0 hne o3)
    obtain ⟨dfx', hx3⟩ := hF3.at_
    refine ⟨x, dfx', _, rfl, hx3, rfl, _, rfl, x, f, lm, lr, ps, B, tops, r, rfl, hF3, s3 _ _ hlr, hrl, fun t2 H4 s4 ht2 => ?_⟩
    have s34 := s3.trans s4
    refine ⟨t2, _, rfl, SqT.of ht2, rfl, _, _, rfl, _, _, rfl, rfl, ?_⟩
    refine ⟨_, rfl, _, rfl, f, dx, _, rfl, s34 _ _ hf, rfl, f, ps, B, tops, rfl, hW.mono s34, fun H5 s5 => ⟨rfl, _, rfl, ?_⟩⟩
    have s35 := s34.trans s5
    by_cases he : bl (AllR B tops) r = (AllR B tops).length
    · refine iteD (by rw [he]) ?_
      exact q0 he H5 s35
    · refine iteDn (fun z => he (by injection z with z; omega)) ?_
      have hlt : bl (AllR B tops) r < (AllR B tops).length := by
        have := bl_le (AllR B tops) r
        omega
      refine ⟨_, rfl, _, rfl, _, rfl, f, ps, B, tops, _, _, rfl, hW.mono s35, List.getElem?_eq_getElem hlt, fun tr H6 s6 htr => ⟨big' (by simp), fun t3 ht3 => ?_⟩⟩
      exact q _ (List.getElem?_eq_getElem hlt) t3 tr _ (s35.trans (s6.trans (Same.new ht3))) upd_same (Same.new ht3 _ _ htr)
/-- how many lie from lo to hi -/
def betw (L : Rows) (lo hi : List Int) : Int := (bl L hi : Int) + (if hi ∈ L then 1 else 0) - (bl L lo : Int)
def sp_between (P : Program) (w : World) (C D : Addr) : Sp := fun vs H Q _ => ∃ (f la lb : Addr) (ps : Prs Str) (B : List Bun) (tops : List Nat) (lo hi : List Int), vs = [.ref f, .ref la, .ref lb] ∧ FW P w C D H f ps B tops ∧ H la = some (.tup (iVs lo)) ∧ H lb = some (.tup (iVs hi)) ∧ lo.length = (order ps).length ∧ hi.length = (order ps).length ∧
  BackV H Q (.int (if betw (AllR B tops) lo hi > 0 then betw (AllR B tops) lo hi else 0))
theorem ok_between (T : Txt K mg) : FnOk P w K mg base CX0 32 T.f_between T.fd_between ["fold", "low", "high"] (sp_between P w T.C_Fold T.C_Tree) := by
  have G_want_row : FnOk P w K mg base CX0 3 T.f_want_row T.fd_want_row ["thing", "many", "at"] sp_want_row := ok_want_row T
  have G_Tree_len : FnOk P w K mg base CX0 1 T.f_Tree_len T.fd_Tree_len ["self"] (sp_Tree_len P w T.C_Tree) := ok_Tree_len T
  have G_Fold_tree : FnOk P w K mg base CX0 1 T.f_Fold_tree T.fd_Fold_tree ["self"] (sp_Fold_tree T.C_Fold) := ok_Fold_tree T
  have G_Finder_init : FnOk P w K mg base CX0 4 T.f_Finder_init T.fd_Finder_init ["self", "fold"] (sp_Finder_init P w T.C_Fold T.C_Tree T.C_Finder) := ok_Finder_init T
  have G_Finder_below : FnOk P w K mg base CX0 31 T.f_Finder_below T.fd_Finder_below ["self", "bound"] (sp_Finder_below P w T.C_Fold T.C_Tree T.C_Finder) := ok_Finder_below T
  obtain ⟨dv, V_want_row2, B_want_row2⟩ := bnd_want2 T
  obtain ⟨dv3, V_want_row3, B_want_row3⟩ := bnd_want3 T
  refine T.F_between.ok sc_between (fun vs H Q E h => ?_) (fun cdv A outer s H vs Q E hr h => ?_)
  · obtain ⟨_, _, _, _, _, _, _, _, rfl, _⟩ := h
    rfl
  · obtain ⟨f, la, lb, ps, B, tops, lo, hi, rfl, hW, hla, hlb, hll, hhl, q⟩ := h
    obtain ⟨dx, t, l, r1, hf, hT, hB, hr1⟩ := id hW.fd
    obtain ⟨dt, d1, d2, d3, ht, _⟩ := id hT
    have hol := order_le hW.g.gp
    refine ⟨_, (pss_cons (ps_expr (pe_call G_want_row (hr.mono (by omega)) (by rfl) T.m_want_row T.F_want_row.kp B_want_row2 V_want_row2 pass0 (pa_cons (pv 1) (pa_cons (pe_callB (call_len_own T.mt_Tree_len G_Tree_len (hr.mono (by omega)) T.b_Tree_len pass0) (by rfl) T.n_len PySem.boot_len (pa_cons (pe_meth0 (pv 0) T.cl_Fold T.mt_Fold_tree G_Fold_tree (hr.mono (by omega)) T.b_Fold_tree .nil pass0) pa_nil)) pa_nil))))
    (pss_cons (ps_expr (pe_call G_want_row (hr.mono (by omega)) (by rfl) T.m_want_row T.F_want_row.kp B_want_row3 V_want_row3 pass0 (pa_cons (pv 2) (pa_cons (pe_callB (call_len_own T.mt_Tree_len G_Tree_len (hr.mono (by omega)) T.b_Tree_len pass0) (by rfl) T.n_len PySem.boot_len (pa_cons (pe_meth0 (pv 0) T.cl_Fold T.mt_Fold_tree G_Fold_tree (hr.mono (by omega)) T.b_Fold_tree .nil pass0) pa_nil)) (pa_cons pe_int pa_nil)))))
    (pss_cons (ps_set (i := 3) sc_between.nd rfl (Or.inl rfl) (pe_make T.M_Finder G_Finder_init (hr.mono (by omega)) (by rfl) T.mC_Finder T.b_Finder_init .nil pass0 (pa_cons (pv 0) pa_nil)))
    (pss_cons (ps_asg (pe_meth (pv 3) T.cl_Finder T.mt_Finder_below G_Finder_below (hr.mono (by omega)) T.b_Finder_below .nil pass0 (pa_cons (pv 1) pa_nil)) (pg_tup (by rfl) (pgs_cons (pg_name (i := 4) sc_between.nd rfl (Or.inl rfl)) (pgs_cons (pg_name (i := 5) sc_between.nd rfl (Or.inl rfl)) pgs_nil))))
    (pss_cons (ps_asg (pe_meth (pv 3) T.cl_Finder T.mt_Finder_below G_Finder_below (hr.mono (by omega)) T.b_Finder_below .nil pass0 (pa_cons (pv 2) pa_nil)) (pg_tup (by rfl) (pgs_cons (pg_name (i := 6) sc_between.nd rfl (Or.inl rfl)) (pgs_cons (pg_name (i := 7) sc_between.nd rfl (Or.inl rfl)) pgs_nil))))
    (pss_one (ps_ret (pe_callB (call_max2 (by rfl)) (by rfl) T.n_max (by decide +kernel) (pa_cons pe_int (pa_cons (pe_op op_sub (pe_op op_add (pv 6) (pe_callTy call_int1 (by rfl) T.n_int (by decide +kernel) (pa_cons (pv 7) pa_nil))) (pv 4)) pa_nil)))))))))), ?_⟩
    refine ⟨_, rfl, _, rfl, f, dx, _, rfl, hf, rfl, f, dx, t, l, .ref r1, rfl, hf, t, dt, _, rfl, ht, t, ps, rfl, hT, _, rfl, by omega, by omega, la, lo, _, _, rfl, hla, by omega, by omega, fun H1 s1 => ?_⟩
    refine ⟨_, rfl, _, rfl, f, dx, _, rfl, s1 _ _ hf, rfl, f, dx, t, l, .ref r1, rfl, s1 _ _ hf, t, dt, _, rfl, s1 _ _ ht, t, ps, rfl, hT.mono s1, _, rfl, by omega, by omega, lb, hi, _, _, rfl, s1 _ _ hlb, by omega, by omega, fun H2 s2' => ?_⟩
    have s12 := s1.trans s2'
    refine ⟨_, rfl, fun x dfx hx0 hdx0 hne => ?_⟩
    have s2 := Same.make (o := .own x) (u := .ins T.C_Finder dfx []) hx0 hdx0 hne
    refine ⟨x, dfx, f, ps, B, tops, rfl, upd_same, (hW.mono s12).mono s2, fun lm H3 hF3 o3 => ⟨rfl, ?_⟩⟩
    have s3 := s12.trans (Made.same hx0 hdx0 hne o3)
    obtain ⟨dfx', hx3⟩ := hF3.at_
    refine ⟨_, rfl, x, dfx', _, rfl, hx3, rfl, _, rfl, x, f, lm, la, ps, B, tops, lo, rfl, hF3, s3 _ _ hla, hll, fun t2 H4 s4 ht2 => ?_⟩
    refine ⟨t2, _, rfl, SqT.of ht2, rfl, _, _, rfl, _, _, rfl, rfl, ?_⟩
    refine ⟨_, rfl, x, dfx', _, rfl, s4 _ _ hx3, rfl, _, rfl, x, f, lm, lb, ps, B, tops, hi, rfl, hF3.mono s4, s4 _ _ (s3 _ _ hlb), hhl, fun t3 H5 s5 ht3 => ?_⟩
    refine ⟨t3, _, rfl, SqT.of ht3, rfl, _, _, rfl, _, _, rfl, rfl, ?_⟩
    refine ⟨_, rfl, _, rfl, .inr ⟨_, rfl, _, _, rfl, rfl, _, rfl, _, _, rfl, rfl, _, _, rfl, ?_⟩⟩
    have e : (if decide (hi ∈ AllR B tops) = true then (1 : Int) else 0) = if hi ∈ AllR B tops then 1 else 0 := by
      by_cases hm : hi ∈ AllR B tops
      · rw [if_pos (decide_eq_true hm), if_pos hm]
      · rw [if_neg (by rw [decide_eq_false hm]; decide), if_neg hm]
    have := q H5 (s3.trans (s4.trans s5))
    unfold betw at this
    rw [← e] at this
    exact this
end
end Fb
set_option Elab.async false
set_option linter.all false
set_option maxRecDepth 100000
set_option maxHeartbeats 1000000
/-! The walker. -/
namespace Fb
open PySem PySem.Spec PyProof.Rows L2
abbrev fW (f : Addr) (k : Nat) : List (Str × V) := [("walked", .ref f), ("standing", nV k)]
def WkAt (C : Addr) (H : Hp) (x f : Addr) (k : Nat) : Prop := ∃ dx, H x = some (.ins C dx (fW f k))
section
variable {P : Program} {w : World} {K : PySem.W.Frag} {mg : Str → Option Value} {base : Heap}
def sp_Walker_init (C : Addr) : Sp := fun vs H Q _ => ∃ (x f dx : Addr), vs = [.ref x, .ref f] ∧ H x = some (.ins C dx []) ∧ ∀ H', WkAt C H' x f 0 → Off [x] H H' → Q .non H'
theorem ok_Walker_init (T : Txt K mg) : FnOk P w K mg base CX0 1 T.f_Walker_init T.fd_Walker_init ["self", "fold"] (sp_Walker_init T.C_Walker) := by
  refine T.F_Walker_init.ok sc_Walker_init (fun vs H Q E h => ?_) (fun cdv A outer s H vs Q E hr h => ?_)
  · obtain ⟨_, _, _, rfl, _⟩ := h
    rfl
  · obtain ⟨x, f, dx, rfl, hx, q⟩ := h
    refine ⟨_, (pss_cons (ps_fld (pv 0) (pv 1) rfl)
    (pss_one (ps_fld (pv 0) pe_int rfl))), ?_⟩
    refine ⟨_, rfl, _, rfl, x, _, dx, [], rfl, hx, T.cl_Walker, T.na_Walker_walked, by simp, ?_⟩
    refine ⟨_, rfl, x, _, dx, [("walked", .ref f)], rfl, upd_same, T.cl_Walker, T.na_Walker_standing, by simp, ?_⟩
    exact q _ ⟨dx, upd_same⟩ ((Off.put (by simp)).trans (Off.put (by simp)))
def sp_Walker_row (P : Program) (w : World) (C D F : Addr) : Sp := fun vs H Q _ => ∃ (x f : Addr) (ps : Prs Str) (B : List Bun) (tops : List Nat) (k : Nat) (row : List Int), vs = [.ref x] ∧ WkAt F H x f k ∧ FW P w C D H f ps B tops ∧ (AllR B tops)[k]? = some row ∧ BackT H Q (iVs row)
theorem ok_Walker_row (T : Txt K mg) : FnOk P w K mg base CX0 22 T.f_Walker_row T.fd_Walker_row ["self"] (sp_Walker_row P w T.C_Fold T.C_Tree T.C_Walker) := by
  have G_Fold_count : FnOk P w K mg base CX0 4 T.f_Fold_count T.fd_Fold_count ["self"] (sp_Fold_count P w T.C_Fold T.C_Tree) := ok_Fold_count T
  have G_row_at : FnOk P w K mg base CX0 21 T.f_row_at T.fd_row_at ["fold", "number"] (sp_row_at P w T.C_Fold T.C_Tree) := ok_row_at T
  refine T.F_Walker_row.ok sc_Walker_row (fun vs H Q E h => ?_) (fun cdv A outer s H vs Q E hr h => ?_)
  · obtain ⟨_, _, _, _, _, _, _, rfl, _⟩ := h
    rfl
  · obtain ⟨x, f, ps, B, tops, k, row, rfl, ⟨dx, hx⟩, hW, hrow, q⟩ := h
    obtain ⟨df, t, l, r1, hf, hT, hB, hr1⟩ := id hW.fd
    have hlt := (List.getElem?_eq_some_iff.mp hrow).1
    refine ⟨_, (pss_cons (ps_if (pt_cmpR op_eq (pe_meth0 (pe_fld (pv 0) rfl) T.cl_Fold T.mt_Fold_count G_Fold_count (hr.mono (by omega)) T.b_Fold_count .nil pass0) pe_int (nomark _)) (pss_one (ps_ret pe_non)) pss_nil)
    (pss_one (ps_ret (pe_call G_row_at (hr.mono (by omega)) (by rfl) T.m_row_at T.F_row_at.kp T.b_row_at .nil pass0 (pa_cons (pe_fld (pv 0) rfl) (pa_cons (pe_fld (pv 0) rfl) pa_nil)))))), ?_⟩
    refine ⟨_, rfl, x, _, dx, _, _, rfl, hx, T.cl_Walker, T.na_Walker_walked, rfl, f, df, _, rfl, hf, rfl, f, ps, B, tops, rfl, hW, fun H1 s1 => ⟨rfl, _, rfl, ?_⟩⟩
    refine iteDn (fun z => by injection z with z; omega) ?_
    exact ⟨_, rfl, x, _, dx, _, _, rfl, s1 _ _ hx, T.cl_Walker, T.na_Walker_walked, rfl, _, rfl, x, _, dx, _, _, rfl, s1 _ _ hx, T.cl_Walker, T.na_Walker_standing, rfl, f, ps, B, tops, k, row, rfl, hW.mono s1, hrow, fun t H2 s2 ht => q t H2 (s1.trans s2) ht⟩
def sp_Walker_where (F : Addr) : Sp := fun vs H Q _ => ∃ (x f : Addr) (k : Nat), vs = [.ref x] ∧ WkAt F H x f k ∧ Q (nV k) H
theorem ok_Walker_where (T : Txt K mg) : FnOk P w K mg base CX0 1 T.f_Walker_where T.fd_Walker_where ["self"] (sp_Walker_where T.C_Walker) := by
  refine T.F_Walker_where.ok sc_Walker_where (fun vs H Q E h => ?_) (fun cdv A outer s H vs Q E hr h => ?_)
  · obtain ⟨_, _, _, rfl, _⟩ := h
    rfl
  · obtain ⟨x, f, k, rfl, ⟨dx, hx⟩, q⟩ := h
    refine ⟨_, (pss_one (ps_ret (pe_fld (pv 0) rfl))), ?_⟩
    exact ⟨_, rfl, x, _, dx, _, _, rfl, hx, T.cl_Walker, T.na_Walker_standing, rfl, q⟩
abbrev Stands (F : Addr) (H : Hp) (Q : VK) (x f : Addr) (k : Nat) (row : List Int) : Prop := ∀ t H', H' t = some (.tup (iVs row)) → WkAt F H' x f k → Off [x] H H' → Q (.ref t) H'
def sp_Walker_stand_at (P : Program) (w : World) (C D F : Addr) : Sp := fun vs H Q _ => ∃ (x f : Addr) (ps : Prs Str) (B : List Bun) (tops : List Nat) (k k' : Nat) (row : List Int), vs = [.ref x, nV k'] ∧ WkAt F H x f k ∧ FW P w C D H f ps B tops ∧ (AllR B tops)[k']? = some row ∧ Stands F H Q x f k' row
theorem ok_Walker_stand_at (T : Txt K mg) : FnOk P w K mg base CX0 23 T.f_Walker_stand_at T.fd_Walker_stand_at ["self", "number"] (sp_Walker_stand_at P w T.C_Fold T.C_Tree T.C_Walker) := by
  have G_Fold_count : FnOk P w K mg base CX0 4 T.f_Fold_count T.fd_Fold_count ["self"] (sp_Fold_count P w T.C_Fold T.C_Tree) := ok_Fold_count T
  have G_Walker_row : FnOk P w K mg base CX0 22 T.f_Walker_row T.fd_Walker_row ["self"] (sp_Walker_row P w T.C_Fold T.C_Tree T.C_Walker) := ok_Walker_row T
  refine T.F_Walker_stand_at.ok sc_Walker_stand_at (fun vs H Q E h => ?_) (fun cdv A outer s H vs Q E hr h => ?_)
  · obtain ⟨_, _, _, _, _, _, _, _, rfl, _⟩ := h
    rfl
  · obtain ⟨x, f, ps, B, tops, k, k', row, rfl, ⟨dx, hx⟩, hW, hrow, q⟩ := h
    obtain ⟨df, t, l, r1, hf, hT, hB, hr1⟩ := id hW.fd
    have hlt := (List.getElem?_eq_some_iff.mp hrow).1
    refine ⟨_, (pss_cons (ps_if (pt_not (pt_chain op_le op_lt pe_int (pv 1) (pe_meth0 (pe_fld (pv 0) rfl) T.cl_Fold T.mt_Fold_count G_Fold_count (hr.mono (by omega)) T.b_Fold_count .nil pass0))) (pss_one ps_never) pss_nil)
    (pss_cons (ps_fld (pv 0) (pv 1) rfl)
    (pss_one (ps_ret (pe_meth0 (pv 0) T.cl_Walker T.mt_Walker_row G_Walker_row (hr.mono (by omega)) T.b_Walker_row .nil pass0))))), ?_⟩
    refine ⟨_, rfl, _, _, rfl, rfl, _, rfl, iteD (by omega) ?_⟩
    refine ⟨_, rfl, x, _, dx, _, _, rfl, hx, T.cl_Walker, T.na_Walker_walked, rfl, f, df, _, rfl, hf, rfl, f, ps, B, tops, rfl, hW, fun H1 s1 => ⟨_, _, rfl, rfl, _, rfl, ?_⟩⟩
    rw [decide_eq_true (show ((k' : Int) < ((AllR B tops).length : Nat)) by omega)]
    refine ⟨_, rfl, _, rfl, x, _, dx, _, rfl, s1 _ _ hx, T.cl_Walker, T.na_Walker_standing, by simp, ?_⟩
    have hW2 := ins_ne (hW.mono s1) (s1 _ _ hx) (by simp) (o := .ins T.C_Walker dx (fW f k'))
    have o2 : Off [x] H (upd H1 x (.ins T.C_Walker dx (fW f k'))) := (Same.off s1).trans (Off.put (by simp))
    refine ⟨_, rfl, x, dx, fW f k', rfl, upd_same, rfl, x, f, ps, B, tops, k', row, rfl, ⟨dx, upd_same⟩, hW2, hrow, fun t H3 s3 ht => ?_⟩
    exact q t H3 ht ⟨dx, s3 _ _ upd_same⟩ (o2.trans (Same.off s3))
def sp_Walker_step (P : Program) (w : World) (C D F : Addr) : Sp := fun vs H Q _ => ∃ (x f : Addr) (ps : Prs Str) (B : List Bun) (tops : List Nat) (k m : Nat) (row : List Int), vs = [.ref x, nV m] ∧ WkAt F H x f k ∧ FW P w C D H f ps B tops ∧ (AllR B tops)[k + m]? = some row ∧ Stands F H Q x f (k + m) row
theorem ok_Walker_step (T : Txt K mg) : FnOk P w K mg base CX0 24 T.f_Walker_step T.fd_Walker_step ["self", "many"] (sp_Walker_step P w T.C_Fold T.C_Tree T.C_Walker) := by
  have G_is_value : FnOk P w K mg base CX0 1 T.f_is_value T.fd_is_value ["thing"] sp_is_value := ok_is_value T
  have G_Walker_stand_at : FnOk P w K mg base CX0 23 T.f_Walker_stand_at T.fd_Walker_stand_at ["self", "number"] (sp_Walker_stand_at P w T.C_Fold T.C_Tree T.C_Walker) := ok_Walker_stand_at T
  refine T.F_Walker_step.ok sc_Walker_step (fun vs H Q E h => ?_) (fun cdv A outer s H vs Q E hr h => ?_)
  · obtain ⟨_, _, _, _, _, _, _, _, rfl, _⟩ := h
    rfl
  · obtain ⟨x, f, ps, B, tops, k, m, row, rfl, ⟨dx, hx⟩, hW, hrow, q⟩ := h
    refine ⟨_, ((pss_cons (ps_if (PW.pt (pw_or (pt_not (pt_val (pe_call G_is_value (hr.mono (by omega)) (by rfl) T.m_is_value T.F_is_value.kp T.b_is_value .nil pass0 (pa_cons (pv 1) pa_nil)))) (pw_or1 (pt_cmpR op_lt (pv 1) pe_int (nomark _))))) (pss_one ps_never) pss_nil)
    (pss_one (ps_ret (pe_meth (pv 0) T.cl_Walker T.mt_Walker_stand_at G_Walker_stand_at (hr.mono (by omega)) T.b_Walker_stand_at .nil pass0 (pa_cons (pe_op op_add (pe_fld (pv 0) rfl) (pv 1)) pa_nil))))) : PSs (cxOf CX0 P w K mg base N_Walker_step "Walker.step" (defScope s_Walker_step) T.f_Walker_step cdv A outer s H E) (defBody s_Walker_step) _), ?_⟩
    refine ⟨_, rfl, m, rfl, true, rfl, ?_⟩
    refine ⟨_, rfl, _, _, rfl, rfl, _, rfl, ?_⟩
    rw [decide_eq_false (show ¬ ((m : Int) < 0) by omega)]
    refine ⟨_, rfl, x, dx, _, rfl, hx, rfl, _, rfl, x, _, dx, _, _, rfl, hx, T.cl_Walker, T.na_Walker_standing, rfl, _, rfl, _, _, rfl, rfl, x, f, ps, B, tops, k, k + m, row, ?_, ⟨dx, hx⟩, hW, hrow, q⟩
    show [_, V.int ((k : Int) + (m : Int))] ++ [] = [_, V.int ((k + m : Nat) : Int)]
    rw [Int.natCast_add]
    rfl
def sp_Walker_back (P : Program) (w : World) (C D F : Addr) : Sp := fun vs H Q _ => ∃ (x f : Addr) (ps : Prs Str) (B : List Bun) (tops : List Nat) (k m : Nat) (row : List Int), vs = [.ref x, nV m] ∧ m ≤ k ∧ WkAt F H x f k ∧ FW P w C D H f ps B tops ∧ (AllR B tops)[k - m]? = some row ∧ Stands F H Q x f (k - m) row
theorem ok_Walker_back (T : Txt K mg) : FnOk P w K mg base CX0 24 T.f_Walker_back T.fd_Walker_back ["self", "many"] (sp_Walker_back P w T.C_Fold T.C_Tree T.C_Walker) := by
  have G_is_value : FnOk P w K mg base CX0 1 T.f_is_value T.fd_is_value ["thing"] sp_is_value := ok_is_value T
  have G_Walker_stand_at : FnOk P w K mg base CX0 23 T.f_Walker_stand_at T.fd_Walker_stand_at ["self", "number"] (sp_Walker_stand_at P w T.C_Fold T.C_Tree T.C_Walker) := ok_Walker_stand_at T
  refine T.F_Walker_back.ok sc_Walker_back (fun vs H Q E h => ?_) (fun cdv A outer s H vs Q E hr h => ?_)
  · obtain ⟨_, _, _, _, _, _, _, _, rfl, _⟩ := h
    rfl
  · obtain ⟨x, f, ps, B, tops, k, m, row, rfl, hmk, ⟨dx, hx⟩, hW, hrow, q⟩ := h
    refine ⟨_, ((pss_cons (ps_if (PW.pt (pw_or (pt_not (pt_val (pe_call G_is_value (hr.mono (by omega)) (by rfl) T.m_is_value T.F_is_value.kp T.b_is_value .nil pass0 (pa_cons (pv 1) pa_nil)))) (pw_or1 (pt_cmpR op_lt (pv 1) pe_int (nomark _))))) (pss_one ps_never) pss_nil)
    (pss_one (ps_ret (pe_meth (pv 0) T.cl_Walker T.mt_Walker_stand_at G_Walker_stand_at (hr.mono (by omega)) T.b_Walker_stand_at .nil pass0 (pa_cons (pe_op op_sub (pe_fld (pv 0) rfl) (pv 1)) pa_nil))))) : PSs (cxOf CX0 P w K mg base N_Walker_back "Walker.back" (defScope s_Walker_back) T.f_Walker_back cdv A outer s H E) (defBody s_Walker_back) _), ?_⟩
    refine ⟨_, rfl, m, rfl, true, rfl, ?_⟩
    refine ⟨_, rfl, _, _, rfl, rfl, _, rfl, ?_⟩
    rw [decide_eq_false (show ¬ ((m : Int) < 0) by omega)]
    refine ⟨_, rfl, x, dx, _, rfl, hx, rfl, _, rfl, x, _, dx, _, _, rfl, hx, T.cl_Walker, T.na_Walker_standing, rfl, _, rfl, _, _, rfl, rfl, x, f, ps, B, tops, k, k - m, row, ?_, ⟨dx, hx⟩, hW, hrow, q⟩
    have e : (k : Int) - (m : Int) = ((k - m : Nat) : Int) := by omega
    show [_, V.int ((k : Int) - (m : Int))] ++ [] = [_, V.int ((k - m : Nat) : Int)]
    rw [e]
    rfl
def sp_Walker_to (P : Program) (w : World) (C D F : Addr) : Sp := fun vs H Q _ => ∃ (x f lr : Addr) (ps : Prs Str) (B : List Bun) (tops : List Nat) (k : Nat) (r row : List Int), vs = [.ref x, .ref lr] ∧ WkAt F H x f k ∧ FW P w C D H f ps B tops ∧ H lr = some (.tup (iVs r)) ∧ r.length = (order ps).length ∧ (AllR B tops)[bl (AllR B tops) r]? = some row ∧ Stands F H Q x f (bl (AllR B tops) r) row
theorem ok_Walker_to (T : Txt K mg) : FnOk P w K mg base CX0 32 T.f_Walker_to T.fd_Walker_to ["self", "row"] (sp_Walker_to P w T.C_Fold T.C_Tree T.C_Walker) := by
  have G_want_row : FnOk P w K mg base CX0 3 T.f_want_row T.fd_want_row ["thing", "many", "at"] sp_want_row := ok_want_row T
  have G_Tree_len : FnOk P w K mg base CX0 1 T.f_Tree_len T.fd_Tree_len ["self"] (sp_Tree_len P w T.C_Tree) := ok_Tree_len T
  have G_Fold_tree : FnOk P w K mg base CX0 1 T.f_Fold_tree T.fd_Fold_tree ["self"] (sp_Fold_tree T.C_Fold) := ok_Fold_tree T
  have G_Finder_init : FnOk P w K mg base CX0 4 T.f_Finder_init T.fd_Finder_init ["self", "fold"] (sp_Finder_init P w T.C_Fold T.C_Tree T.C_Finder) := ok_Finder_init T
  have G_Finder_below : FnOk P w K mg base CX0 31 T.f_Finder_below T.fd_Finder_below ["self", "bound"] (sp_Finder_below P w T.C_Fold T.C_Tree T.C_Finder) := ok_Finder_below T
  have G_Walker_stand_at : FnOk P w K mg base CX0 23 T.f_Walker_stand_at T.fd_Walker_stand_at ["self", "number"] (sp_Walker_stand_at P w T.C_Fold T.C_Tree T.C_Walker) := ok_Walker_stand_at T
  obtain ⟨dv, V_want_row2, B_want_row2⟩ := bnd_want2 T
  refine T.F_Walker_to.ok sc_Walker_to (fun vs H Q E h => ?_) (fun cdv A outer s H vs Q E hr h => ?_)
  · obtain ⟨_, _, _, _, _, _, _, _, _, rfl, _⟩ := h
    rfl
  · obtain ⟨x, f, lr, ps, B, tops, k, r, row, rfl, ⟨dw, hxw⟩, hW, hlr, hrl, hrow, q⟩ := h
    obtain ⟨dx, t, l, r1, hf, hT, hB, hr1⟩ := id hW.fd
    obtain ⟨dt, d1, d2, d3, ht, _⟩ := id hT
    have hol := order_le hW.g.gp
    refine ⟨_, (pss_cons (ps_expr (pe_call G_want_row (hr.mono (by omega)) (by rfl) T.m_want_row T.F_want_row.kp B_want_row2 V_want_row2 pass0 (pa_cons (pv 1) (pa_cons (pe_callB (call_len_own T.mt_Tree_len G_Tree_len (hr.mono (by omega)) T.b_Tree_len pass0) (by rfl) T.n_len PySem.boot_len (pa_cons (pe_meth0 (pe_fld (pv 0) rfl) T.cl_Fold T.mt_Fold_tree G_Fold_tree (hr.mono (by omega)) T.b_Fold_tree .nil pass0) pa_nil)) pa_nil))))
    (pss_one (ps_ret (pe_meth (pv 0) T.cl_Walker T.mt_Walker_stand_at G_Walker_stand_at (hr.mono (by omega)) T.b_Walker_stand_at .nil pass0 (pa_cons (pe_ix ix_tup (pe_meth (pe_make T.M_Finder G_Finder_init (hr.mono (by omega)) (by rfl) T.mC_Finder T.b_Finder_init .nil pass0 (pa_cons (pe_fld (pv 0) rfl) pa_nil)) T.cl_Finder T.mt_Finder_below G_Finder_below (hr.mono (by omega)) T.b_Finder_below .nil pass0 (pa_cons (pv 1) pa_nil)) pe_int (fun _ _ => rfl)) pa_nil))))), ?_⟩
    refine ⟨_, rfl, _, rfl, x, _, dw, _, _, rfl, hxw, T.cl_Walker, T.na_Walker_walked, rfl, f, dx, _, rfl, hf, rfl, f, dx, t, l, .ref r1, rfl, hf, t, dt, _, rfl, ht, t, ps, rfl, hT, _, rfl, by omega, by omega, lr, r, _, _, rfl, hlr, by omega, by omega, fun H1 s1 => ?_⟩
    refine ⟨_, rfl, x, dw, _, rfl, s1 _ _ hxw, rfl, _, rfl, x, _, dw, _, _, rfl, s1 _ _ hxw, T.cl_Walker, T.na_Walker_walked, rfl, fun y dy hy0 hdy0 hne => ?_⟩
    have s2 := Same.make (o := .own y) (u := .ins T.C_Finder dy []) hy0 hdy0 hne
    refine ⟨y, dy, f, ps, B, tops, rfl, upd_same, (hW.mono s1).mono s2, fun lm H3 hF3 o3 => ⟨rfl, ?_⟩⟩
    have s3 := s1.trans (Made.same hy0 hdy0 hne o3)
    obtain ⟨dfx', hx3⟩ := hF3.at_
    refine ⟨y, dfx', _, rfl, hx3, rfl, _, rfl, y, f, lm, lr, ps, B, tops, r, rfl, hF3, s3 _ _ hlr, hrl, fun t2 H4 s4 ht2 => ?_⟩
    have s34 := s3.trans s4
    refine ⟨t2, _, _, _, rfl, rfl, SqT.of ht2, rfl, x, f, ps, B, tops, k, bl (AllR B tops) r, row, rfl, ⟨dw, s34 _ _ hxw⟩, hW.mono s34, hrow, fun t H5 ht hwk o5 => ?_⟩
    exact q t H5 ht hwk ((Same.off s34).trans o5)
end
end Fb
set_option Elab.async false
set_option linter.all false
set_option maxRecDepth 100000
set_option maxHeartbeats 1000000
/-! Bunches carried over, once more; the order of a visit; keys of bunches. -/
namespace Fb
open PySem PySem.Spec PyProof.Rows L2
def mvE (f : Nat → Nat) (e : Ent) : Ent := (e.1, e.2.map f)
def mvB (f : Nat → Nat) (b : Bun) : Bun := (b.1, b.2.map (mvE f))
/-- B' is B, its numbers V mapped by f -/
structure Mv (B B' : List Bun) (f : Nat → Nat) (Vd : Nat → Prop) : Prop where
  fwd : ∀ n, Vd n → ∃ b, B[n]? = some b ∧ (∀ e ∈ b.2, ∀ d ∈ e.2, Vd d) ∧ B'[f n]? = some (mvB f b)
  bwd : ∀ (n' : Nat) (b' : Bun), B'[n']? = some b' → ∃ (n : Nat) (b : Bun), B[n]? = some b ∧ b' = mvB f b ∧ ∀ e ∈ b.2, ∀ d ∈ e.2, Vd d
theorem Mv.rr {B B' : List Bun} {f : Nat → Nat} {Vd : Nat → Prop} (m : Mv B B' f Vd) {n : Nat} (h : Vd n) : RR B' (f n) = RR B n := by
  refine RR_map f Vd (fun n hn => ?_) h
  obtain ⟨b, h1, h2, h3⟩ := m.fwd n hn
  exact ⟨b, h1, h2, b.1, h3⟩
theorem Mv.parts {ps : Prs Str} {B B' : List Bun} {f : Nat → Nat} {Vd : Nat → Prop} (m : Mv B B' f Vd) {o : Option Str} {ds : List Nat} (h : PartsOk ps B o ds) (hv : ∀ d ∈ ds, Vd d) : PartsOk ps B' o (ds.map f) := by
  refine ⟨by rw [List.length_map]; exact h.1, fun i d' k h1 h2 => ?_⟩
  rw [List.getElem?_map] at h1
  obtain ⟨d, hd, rfl⟩ := Option.map_eq_some_iff.mp h1
  obtain ⟨b, h3, h4⟩ := h.2 i d k hd h2
  obtain ⟨b2, h5, _, h6⟩ := m.fwd d (hv d (mem_at hd))
  rw [h3] at h5
  cases h5
  exact ⟨_, h6, h4⟩
theorem Mv.good {ps : Prs Str} {B B' : List Bun} {f : Nat → Nat} {Vd : Nat → Prop} (m : Mv B B' f Vd) (g : GoodB ps B) : GoodB ps B' := by
  have key := m.bwd
  refine ⟨g.gp, fun n' b' h => ?_, fun n' b' h => ?_, fun n' b' h => ?_, fun n' b' h => ?_, fun n' b' h e he => ?_⟩
  · obtain ⟨n, b, h1, rfl, _⟩ := key n' b' h
    exact g.col n b h1
  · obtain ⟨n, b, h1, rfl, _⟩ := key n' b' h
    exact List.pairwise_map.mpr (g.up n b h1)
  · obtain ⟨n, b, h1, rfl, _⟩ := key n' b' h
    have := g.ne n b h1
    simpa [mvB] using this
  · obtain ⟨n, b, h1, rfl, _⟩ := key n' b' h
    have := g.le n b h1
    simpa [mvB] using this
  · obtain ⟨n, b, h1, rfl, hv⟩ := key n' b' h
    obtain ⟨e0, he0, rfl⟩ := List.mem_map.mp he
    exact m.parts (g.parts n b h1 e0 he0) (hv e0 he0)
theorem Mv.all {B B' : List Bun} {f : Nat → Nat} {Vd : Nat → Prop} (m : Mv B B' f Vd) {ds : List Nat} (hv : ∀ d ∈ ds, Vd d) : prod ((ds.map f).map (RR B')) = prod (ds.map (RR B)) := by
  rw [List.map_map]
  congr 1
  exact List.map_congr_left fun d hd => m.rr (hv d hd)
/-! ### keys -/
def keyE (e : Ent) : NestedKey := .tup [.num e.1, .tup (e.2.map fun d : Nat => .num (d : Int))]
def keyB (b : Bun) : NestedKey := .tup [.text b.1, .tup (b.2.map keyE)]
theorem num_inj : ∀ {a b : List Nat}, (a.map fun d : Nat => NestedKey.num (d : Int)) = (b.map fun d : Nat => NestedKey.num (d : Int)) → a = b
  | [], [], _ => rfl
  | [], _ :: _, h => by simp at h
  | _ :: _, [], h => by simp at h
  | x :: a, y :: b, h => by
    rw [List.map_cons, List.map_cons] at h
    injection h with h1 h2
    injection h1 with h1
    rw [num_inj h2, show x = y by omega]
theorem keyE_inj {a b : Ent} (h : keyE a = keyE b) : a = b := by
  unfold keyE at h
  injection h with h
  injection h with h1 h
  injection h with h h2
  injection h1 with h1
  injection h with h
  exact Prod.ext h1 (num_inj h)
theorem keyEs_inj : ∀ {a b : List Ent}, a.map keyE = b.map keyE → a = b
  | [], [], _ => rfl
  | [], _ :: _, h => by simp at h
  | _ :: _, [], h => by simp at h
  | x :: a, y :: b, h => by
    rw [List.map_cons, List.map_cons] at h
    injection h with h1 h2
    rw [keyEs_inj h2, keyE_inj h1]
theorem keyB_inj {a b : Bun} (h : keyB a = keyB b) : a = b := by
  unfold keyB at h
  injection h with h
  injection h with h1 h
  injection h with h h2
  injection h1 with h1
  injection h with h
  exact Prod.ext h1 (keyEs_inj h)
theorem nk_nums {H : Hp} : ∀ ds : List Nat, NKs H (ds.map fun d : Nat => NestedKey.num (d : Int)) (nVs ds)
  | [] => .nil
  | d :: ds => .cons (.int _) (nk_nums ds)
theorem nk_ents {H : Hp} {vs : List V} {es : List Ent} (h : Paired (EntV H) vs es) : NKs H (es.map keyE) vs := by
  induction h with
  | nil => exact .nil
  | cons h t ih =>
    obtain ⟨a, b, rfl, h1, h2⟩ := h
    exact .cons (.tup h1 (.cons (.int _) (.cons (.tup h2 (nk_nums _)) .nil))) ih
/-! ### places -/
def plK (ord : List Nat) : List (Key × V) := ord.map fun n : Nat => (Sum.inl (n : Int), nV (ord.idxOf n))
theorem plK_get {ord : List Nat} {n : Nat} : valV (plK ord) (Sum.inl (n : Int)) = if n ∈ ord then some (nV (ord.idxOf n)) else none := by
  have key : ∀ (f : Nat → V) (l : List Nat), valV (l.map fun n : Nat => ((Sum.inl (n : Int) : Key), f n)) (Sum.inl (n : Int)) = if n ∈ l then some (f n) else none := by
    intro f l
    induction l with
    | nil => rfl
    | cons a l ih =>
      by_cases e : a = n
      · subst e
        rw [if_pos List.mem_cons_self]
        exact valV_pos (p := ((Sum.inl (a : Int) : Key), f a)) rfl
      · refine (valV_neg (p := ((Sum.inl (a : Int) : Key), f a)) fun z => e (by injection z with z; omega)).trans ?_
        rw [ih]
        have : (n ∈ a :: l) ↔ n ∈ l := by
          rw [List.mem_cons]
          exact ⟨fun h => h.resolve_left (fun z => e z.symm), .inr⟩
        by_cases h : n ∈ l
        · rw [if_pos h, if_pos (this.mpr h)]
        · rw [if_neg h, if_neg (fun z => h (this.mp z))]
  exact key (fun n => nV (ord.idxOf n)) ord
theorem plK_snoc {ord : List Nat} {n : Nat} (h : n ∉ ord) : putK (plK ord) (Sum.inl (n : Int)) (nV ord.length) = plK (ord ++ [n]) := by
  rw [putK_new _ (by rw [plK_get, if_neg h])]
  unfold plK
  rw [List.map_append]
  congr 1
  · refine List.map_congr_left fun m hm => ?_
    rw [List.idxOf_append, if_pos hm]
  · simp [List.idxOf_append, h]
end Fb
set_option Elab.async false
set_option linter.all false
set_option maxRecDepth 100000
set_option maxHeartbeats 1000000
/-! What fold_of asks of its bunches. -/
namespace Fb
open PySem PySem.Spec PyProof.Rows L2
theorem inV_mem {c : Str} {l : List Str} (h : c ∈ l) : inV (.str c) (sVs l) = true := by
  unfold inV sVs
  rw [List.any_map]
  exact List.any_eq_true.mpr ⟨c, h, by simp [eqV]⟩
theorem flat_s (l : List Str) : (sVs l).all flatV = true := by
  unfold sVs
  rw [List.all_map]
  exact List.all_eq_true.mpr fun x _ => rfl
section
variable {P : Program} {w : World} {K : PySem.W.Frag} {mg : Str → Option Value} {base : Heap}
def sp_is_part : Sp := fun vs H Q _ => ∃ (lp lc lb : Addr) (ps : Prs Str) (B : List Bun) (o : Option Str) (ds : List Nat), vs = [.ref lp, .ref lc, .int (kidsOf ps o).length, .ref lb] ∧ NT H lp ds ∧ H lc = some (.lst (sVs (kidsOf ps o))) ∧ BunsL H lb B ∧ PartsOk ps B o ds ∧ BackV H Q (.bl true)
theorem ok_is_part (T : Txt K mg) : FnOk P w K mg base CX0 2 T.f_is_part T.fd_is_part ["thing", "columns", "many", "bunches"] sp_is_part := by
  have G_is_value : FnOk P w K mg base CX0 1 T.f_is_value T.fd_is_value ["thing"] sp_is_value := ok_is_value T
  refine T.F_is_part.ok sc_is_part (fun vs H Q E h => ?_) (fun cdv A outer s H vs Q E hr h => ?_)
  · obtain ⟨_, _, _, _, _, _, _, rfl, _⟩ := h
    rfl
  · obtain ⟨lp, lc, lb, ps, B, o, ds, rfl, hlp, hlc, hB, hp, q⟩ := h
    refine ⟨_, (pss_cons (ps_if (PW.pt (pw_or (pt_not (pt_val (pe_callB call_isi (by rfl) T.n_isinstance (by decide +kernel) (pa_cons (pv 0) (pa_cons (pe_bltn (v := .ty "tuple") (by rfl) T.n_tuple (by decide +kernel) rfl) pa_nil))))) (pw_or1 (pt_cmpR op_ne (pe_callB call_len_seq (by rfl) T.n_len PySem.boot_len (pa_cons (pv 0) pa_nil)) (pv 2) (nomark _))))) (pss_one (ps_ret pe_bl)) pss_nil)
    (pss_cons (ps_for PassesOwn.never (by rfl) (pi_zipTL (by rfl) T.n_zip (pa_cons (pv 0) (pa_cons (pv 1) pa_nil))) (pg_tup (by rfl) (pgs_cons (pg_name (i := 4) sc_is_part.nd rfl (Or.inl rfl)) (pgs_cons (pg_name (i := 5) sc_is_part.nd rfl (Or.inl rfl)) pgs_nil))) (pss_cons (ps_if (PW.pt (pw_or (pt_not (pt_val (pe_call G_is_value (hr.mono (by omega)) (by rfl) T.m_is_value T.F_is_value.kp T.b_is_value .nil pass0 (pa_cons (pv 4) pa_nil)))) (pw_or1 (pt_not (pt_chain op_le op_lt pe_int (pv 4) (pe_callB call_len_seq (by rfl) T.n_len PySem.boot_len (pa_cons (pv 3) pa_nil))))))) (pss_one (ps_ret pe_bl)) pss_nil)
      (pss_cons (ps_set (i := 6) sc_is_part.nd rfl (Or.inl rfl) (pe_ix ix_list (pv 3) (pv 4) (fun _ _ => rfl)))
      (pss_one (ps_if (PW.pt (pw_or (pt_not (pt_val (pe_callB call_isi (by rfl) T.n_isinstance (by decide +kernel) (pa_cons (pv 6) (pa_cons (pe_bltn (v := .ty "tuple") (by rfl) T.n_tuple (by decide +kernel) rfl) pa_nil))))) (pw_or (pt_cmpR op_ne (pe_callB call_len_seq (by rfl) T.n_len PySem.boot_len (pa_cons (pv 6) pa_nil)) pe_int (nomark _)) (pw_or1 (pt_cmpR op_ne (pe_ix ix_tup (pv 6) pe_int (fun _ _ => rfl)) (pv 5) (nomark _)))))) (pss_one (ps_ret pe_bl)) pss_nil)))))
    (pss_one (ps_ret pe_bl)))), ?_⟩
    refine ⟨_, rfl, _, _, _, _, true, rfl, .ty _, .base (.tup hlp), kit_ty (by decide +kernel), true, rfl, ?_⟩
    refine ⟨_, rfl, lp, _, rfl, .inr (SqT.of hlp), _, rfl, rfl, _, rfl, ?_⟩
    have e0 : (!decide (V.int ((nVs ds).length : Nat) = V.int ((kidsOf ps o).length : Nat))) = false := by
      rw [nVs_len, hp.1]
      simp
    rw [e0]
    refine ⟨_, rfl, _, rfl, lp, lc, _, _, rfl, SqT.of hlp, SqL.of hlc, ?_⟩
    refine for_it (walk_TL (K := K) (a := lp) (b := lc) (xs := nVs ds) (ys := sVs (kidsOf ps o)) (by rw [nVs_len, sVs_len, hp.1])) (fun i σ H' => ∃ (v4 v5 v6 : Option V), σ = [some (.ref lp), some (.ref lc), some (.int (kidsOf ps o).length), some (.ref lb), v4, v5, v6] ∧ Same H H') ?_ ?_ ?_ ?_
    · exact ⟨none, none, none, rfl, Same.refl _⟩
    · rintro i σ H' hi ⟨v4, v5, v6, _, s⟩
      exact ⟨SqT.of (s _ _ hlp), SqL.of (s _ _ hlc)⟩
    · rintro i z σ H2 H3 hi ⟨v4, v5, v6, rfl, s2⟩ ⟨tt, y1, y2, rfl, htt, rfl, hy1, hy2⟩
      obtain ⟨d, hd, rfl⟩ := nVs_some hy1
      have hy3 : (sVs (kidsOf ps o))[i]? = some y2 := hy2
      rw [sVs_get] at hy3
      obtain ⟨k, hk, rfl⟩ := Option.map_eq_some_iff.mp hy3
      obtain ⟨b, hb, rfl⟩ := hp.2 i d k hd hk
      have s3 := s2.trans (Same.new (o := .tup [nV d, .str b.1]) htt)
      obtain ⟨bv, ta, le, hbv, hbl, hat, hta, ev, hev, hE⟩ := (hB.mono s3).at hb
      have hdB := (List.getElem?_eq_some_iff.mp hb).1
      refine ⟨tt, _, rfl, SqT.of upd_same, rfl, _, _, rfl, _, _, rfl, rfl, ?_⟩
      refine ⟨_, rfl, d, rfl, true, rfl, ?_⟩
      refine ⟨_, rfl, _, _, rfl, rfl, _, rfl, iteD (by omega) ?_⟩
      refine ⟨_, rfl, lb, bv, rfl, .inl (SqL.of hbv), _, _, rfl, rfl, _, rfl, ?_⟩
      rw [decide_eq_true (show ((d : Int) < (bv.length : Nat)) by omega)]
      refine ⟨_, rfl, _, rfl, lb, _, _, _, rfl, rfl, SqL.of hbv, atI_nat hat, ?_⟩
      refine ⟨_, rfl, _, _, _, _, true, rfl, .ty _, .base (.tup hta), kit_ty (by decide +kernel), true, rfl, ?_⟩
      refine ⟨_, rfl, ta, _, rfl, .inr (SqT.of hta), rfl, _, rfl, ?_⟩
      refine ⟨_, rfl, ta, _, _, _, rfl, rfl, SqT.of hta, rfl, _, rfl, rfl, _, rfl, ?_⟩
      rw [decide_eq_true (show (V.str b.1 = V.str b.1) from rfl)]
      exact ⟨_, _, _, rfl, s3⟩
    · rintro σ H2 ⟨v4, v5, v6, rfl, s2⟩
      exact q H2 s2
def sp_is_bunch (P : Program) (w : World) (C : Addr) : Sp := fun vs H Q _ => ∃ (t lb : Addr) (v : V) (ps : Prs Str) (B : List Bun) (b : Bun), vs = [.ref t, v, .ref lb] ∧ TreeAt P w C H t ps ∧ GoodP ps ∧ NmP ps ∧ BunsL H lb B ∧ BunV H v b ∧ b.1 ∈ order ps ∧ UpE b.2 ∧ (∀ e ∈ b.2, PartsOk ps B (some b.1) e.2) ∧ BackV H Q (.bl true)
theorem ok_is_bunch (T : Txt K mg) : FnOk P w K mg base CX0 4 T.f_is_bunch T.fd_is_bunch ["tree", "thing", "bunches"] (sp_is_bunch P w T.C_Tree) := by
  have G_is_value : FnOk P w K mg base CX0 1 T.f_is_value T.fd_is_value ["thing"] sp_is_value := ok_is_value T
  have G_is_name : FnOk P w K mg base CX0 1 T.f_is_name T.fd_is_name ["thing"] sp_is_name := ok_is_name T
  have G_is_part : FnOk P w K mg base CX0 2 T.f_is_part T.fd_is_part ["thing", "columns", "many", "bunches"] sp_is_part := ok_is_part T
  have G_Tree_columns : FnOk P w K mg base CX0 1 T.f_Tree_columns T.fd_Tree_columns ["self"] (sp_Tree_columns P w T.C_Tree) := ok_Tree_columns T
  have G_Tree_children : FnOk P w K mg base CX0 3 T.f_Tree_children T.fd_Tree_children ["self", "column"] (sp_Tree_children P w T.C_Tree) := ok_Tree_children T
  obtain ⟨dv, V_Tree_children2, B_Tree_children2⟩ := bnd_children2 T
  refine T.F_is_bunch.ok sc_is_bunch (fun vs H Q E h => ?_) (fun cdv A outer s H vs Q E hr h => ?_)
  · obtain ⟨_, _, _, _, _, _, rfl, _⟩ := h
    rfl
  · obtain ⟨t, lb, v, ps, B, b, rfl, hT, g, hN, hB, ⟨a, l, rfl, ha, ev, hl, hE⟩, hbo, hup, hpo, q⟩ := h
    obtain ⟨dt, d1, d2, d3, ht, _⟩ := id hT
    have hcn := order_names hbo
    refine ⟨_, (pss_cons (ps_if (PW.pt (pw_or (pt_not (pt_val (pe_callB call_isi (by rfl) T.n_isinstance (by decide +kernel) (pa_cons (pv 1) (pa_cons (pe_bltn (v := .ty "tuple") (by rfl) T.n_tuple (by decide +kernel) rfl) pa_nil))))) (pw_or (pt_cmpR op_ne (pe_callB call_len_seq (by rfl) T.n_len PySem.boot_len (pa_cons (pv 1) pa_nil)) pe_int (nomark _)) (pw_or (pt_not (pt_val (pe_call G_is_name (hr.mono (by omega)) (by rfl) T.m_is_name T.F_is_name.kp T.b_is_name .nil pass0 (pa_cons (pe_ix ix_tup (pv 1) pe_int (fun _ _ => rfl)) pa_nil)))) (pw_or1 (pt_cmpR op_notIn_seq (pe_ix ix_tup (pv 1) pe_int (fun _ _ => rfl)) (pe_meth0 (pv 0) T.cl_Tree T.mt_Tree_columns G_Tree_columns (hr.mono (by omega)) T.b_Tree_columns .nil pass0) (by rfl))))))) (pss_one (ps_ret pe_bl)) pss_nil)
    (pss_cons (ps_if (pt_not (pt_val (pe_callB call_isi (by rfl) T.n_isinstance (by decide +kernel) (pa_cons (pe_ix ix_tup (pv 1) pe_int (fun _ _ => rfl)) (pa_cons (pe_bltn (v := .ty "list") (by rfl) T.n_list (by decide +kernel) rfl) pa_nil))))) (pss_one (ps_ret pe_bl)) pss_nil)
    (pss_cons (ps_set (i := 3) sc_is_bunch.nd rfl (Or.inl rfl) (pe_meth (pv 0) T.cl_Tree T.mt_Tree_children G_Tree_children (hr.mono (by omega)) B_Tree_children2 V_Tree_children2 pass0 (pa_cons (pe_ix ix_tup (pv 1) pe_int (fun _ _ => rfl)) pa_nil)))
    (pss_cons (ps_set (i := 4) sc_is_bunch.nd rfl (Or.inl rfl) pe_non)
    (pss_cons (ps_for PassesOwn.never (by rfl) (pi_list (pe_ix ix_tup (pv 1) pe_int (fun _ _ => rfl))) (pg_name (i := 5) sc_is_bunch.nd rfl (Or.inl rfl)) (pss_cons (ps_if (PW.pt (pw_or (pt_not (pt_val (pe_callB call_isi (by rfl) T.n_isinstance (by decide +kernel) (pa_cons (pv 5) (pa_cons (pe_bltn (v := .ty "tuple") (by rfl) T.n_tuple (by decide +kernel) rfl) pa_nil))))) (pw_or (pt_cmpR op_ne (pe_callB call_len_seq (by rfl) T.n_len PySem.boot_len (pa_cons (pv 5) pa_nil)) pe_int (nomark _)) (pw_or1 (pt_not (pt_val (pe_call G_is_value (hr.mono (by omega)) (by rfl) T.m_is_value T.F_is_value.kp T.b_is_value .nil pass0 (pa_cons (pe_ix ix_tup (pv 5) pe_int (fun _ _ => rfl)) pa_nil)))))))) (pss_one (ps_ret pe_bl)) pss_nil)
      (pss_cons (ps_if (PW.pt (pw_or (PW.pt (pw_and (pt_cmpR op_notN (pv 4) pe_non (nomark _)) (pw_and1 (pt_cmpR op_le (pe_ix ix_tup (pv 5) pe_int (fun _ _ => rfl)) (pv 4) (nomark _))))) (pw_or1 (pt_not (pt_val (pe_call G_is_part (hr.mono (by omega)) (by rfl) T.m_is_part T.F_is_part.kp T.b_is_part .nil pass0 (pa_cons (pe_ix ix_tup (pv 5) pe_int (fun _ _ => rfl)) (pa_cons (pv 3) (pa_cons (pe_callB call_len_seq (by rfl) T.n_len PySem.boot_len (pa_cons (pv 3) pa_nil)) (pa_cons (pv 2) pa_nil)))))))))) (pss_one (ps_ret pe_bl)) pss_nil)
      (pss_one (ps_set (i := 4) sc_is_bunch.nd rfl (Or.inl rfl) (pe_ix ix_tup (pv 5) pe_int (fun _ _ => rfl)))))))
    (pss_one (ps_ret pe_bl))))))), ?_⟩
    refine ⟨_, rfl, _, _, _, _, true, rfl, .ty _, .base (.tup ha), kit_ty (by decide +kernel), true, rfl, ?_⟩
    refine ⟨_, rfl, a, _, rfl, .inr (SqT.of ha), rfl, _, rfl, ?_⟩
    refine ⟨_, rfl, a, _, _, _, rfl, rfl, SqT.of ha, rfl, b.1, rfl, hN.of hcn, true, rfl, ?_⟩
    refine ⟨_, rfl, a, _, _, _, rfl, rfl, SqT.of ha, rfl, _, rfl, t, dt, _, rfl, ht, rfl, t, ps, rfl, hT, fun lo H1 hlo0 s1 hlo => ?_⟩
    refine ⟨lo, _, rfl, .inl (SqL.of hlo), rfl, flat_s _, _, rfl, ?_⟩
    rw [inV_mem hbo]
    refine ⟨_, rfl, a, _, _, _, rfl, rfl, SqT.of (s1 _ _ ha), rfl, _, _, _, _, true, rfl, .ty _, .base (.lst (s1 _ _ hl)), kit_ty (by decide +kernel), true, rfl, ?_⟩
    refine ⟨_, rfl, t, dt, _, rfl, s1 _ _ ht, rfl, _, rfl, a, _, _, _, rfl, rfl, SqT.of (s1 _ _ ha), rfl, t, ps, some b.1, rfl, hT.mono s1, g, (fun c hc => by cases hc; exact ⟨hN.of hcn, hcn⟩), fun lc H2 hlc0 s2 hlc => ?_⟩
    have s12 := s1.trans s2
    refine ⟨_, rfl, a, _, _, _, rfl, rfl, SqT.of (s12 _ _ ha), rfl, l, rfl, ⟨ev, SqL.of (s12 _ _ hl)⟩, ?_⟩
    refine for_it (walk_list (K := K) (a := l) (xs := ev)) (fun i σ H' => ∃ (lv v5 : Option V), σ = [some (.ref t), some (.ref a), some (.ref lb), some (.ref lc), lv, v5] ∧ Same H2 H' ∧ ((i = 0 ∧ lv = some .non) ∨ ∃ e, 0 < i ∧ b.2[i - 1]? = some e ∧ lv = some (.int e.1))) ?_ ?_ ?_ ?_
    · exact ⟨_, none, rfl, Same.refl _, .inl ⟨rfl, rfl⟩⟩
    · rintro i σ H' hi ⟨lv, v5, _, s, _⟩
      exact SqL.of (s _ _ (s12 _ _ hl))
    · rintro i z σ H4 H3 hi ⟨lv, v5, rfl, s3, hlv⟩ ⟨rfl, hz⟩
      obtain ⟨e, he, a1, b1, rfl, h1, h2⟩ := Paired.ofL hE hz
      have s13 := s12.trans s3
      have h1 := s13 _ _ h1
      refine ⟨_, rfl, _, _, _, _, true, rfl, .ty _, .base (.tup h1), kit_ty (by decide +kernel), true, rfl, ?_⟩
      refine ⟨_, rfl, a1, _, rfl, .inr (SqT.of h1), rfl, _, rfl, ?_⟩
      refine ⟨_, rfl, a1, _, _, _, rfl, rfl, SqT.of h1, rfl, e.1, rfl, true, rfl, ?_⟩
      have hpe := hpo e (List.mem_of_getElem? he)
      rcases hlv with ⟨rfl, rfl⟩ | ⟨e', hi0, he', rfl⟩
      · refine ⟨_, rfl, rfl, _, rfl, ?_⟩
        refine ⟨_, rfl, a1, _, _, _, rfl, rfl, SqT.of h1, rfl, _, rfl, _, rfl, lc, _, rfl, .inl (SqL.of (s3 _ _ hlc)), _, rfl, b1, lc, lb, ps, B, some b.1, e.2, ?_, s13 _ _ h2, s3 _ _ hlc, hB.mono s13, hpe, fun H5 s5 => ⟨true, rfl, ?_⟩⟩
        · show [_, _, V.int ((sVs (kidsOf ps (some b.1))).length : Nat), _] ++ [] = _
          rw [sVs_len]
          rfl
        · have h15 := s5 _ _ h1
          exact ⟨_, rfl, a1, _, _, _, rfl, rfl, SqT.of h15, rfl, _, _, rfl, s3.trans s5, .inr ⟨e, Nat.succ_pos _, he, rfl⟩⟩
      · have hlt : e'.1 < e.1 := by
          obtain ⟨p1, c1⟩ := List.getElem?_eq_some_iff.mp he'
          obtain ⟨p2, c2⟩ := List.getElem?_eq_some_iff.mp he
          have := List.pairwise_iff_getElem.mp hup (i - 1) i p1 p2 (by omega)
          rw [c1, c2] at this
          exact this
        refine ⟨_, rfl, rfl, _, rfl, ?_⟩
        refine ⟨_, rfl, a1, _, _, _, rfl, rfl, SqT.of h1, rfl, _, rfl, _, _, rfl, rfl, _, rfl, ?_⟩
        rw [decide_eq_false (show ¬ e.1 ≤ e'.1 by omega)]
        refine ⟨_, rfl, a1, _, _, _, rfl, rfl, SqT.of h1, rfl, _, rfl, _, rfl, lc, _, rfl, .inl (SqL.of (s3 _ _ hlc)), _, rfl, b1, lc, lb, ps, B, some b.1, e.2, ?_, s13 _ _ h2, s3 _ _ hlc, hB.mono s13, hpe, fun H5 s5 => ⟨true, rfl, ?_⟩⟩
        · show [_, _, V.int ((sVs (kidsOf ps (some b.1))).length : Nat), _] ++ [] = _
          rw [sVs_len]
          rfl
        · have h15 := s5 _ _ h1
          exact ⟨_, rfl, a1, _, _, _, rfl, rfl, SqT.of h15, rfl, _, _, rfl, s3.trans s5, .inr ⟨e, Nat.succ_pos _, he, rfl⟩⟩
    · rintro σ H3 ⟨lv, v5, rfl, s3, hlv⟩
      exact q H3 (s12.trans s3)
end
end Fb
set_option Elab.async false
set_option linter.all false
set_option maxRecDepth 100000
set_option maxHeartbeats 1000000
/-! The pool. -/
namespace Fb
open PySem PySem.Spec PyProof.Rows L2
theorem dep_nums : ∀ ds : List Nat, NestedKey.depthAll (ds.map fun d : Nat => NestedKey.num (d : Int)) = 0
  | [] => by simp [NestedKey.depthAll]
  | d :: ds => by rw [List.map_cons, NestedKey.depthAll, dep_nums ds, NestedKey.depth]; rfl
theorem dep_E (e : Ent) : (keyE e).depth = 2 := by
  unfold keyE
  rw [NestedKey.depth, NestedKey.depthAll, NestedKey.depth, NestedKey.depthAll, NestedKey.depth, dep_nums, NestedKey.depthAll]
  rfl
theorem dep_Es : ∀ es : List Ent, NestedKey.depthAll (es.map keyE) ≤ 2
  | [] => by simp [NestedKey.depthAll]
  | e :: es => by
    rw [List.map_cons, NestedKey.depthAll, dep_E]
    have := dep_Es es
    omega
theorem dep_B (b : Bun) : (keyB b).depth ≤ 8 := by
  unfold keyB
  rw [NestedKey.depth, NestedKey.depthAll, NestedKey.depth, NestedKey.depthAll, NestedKey.depth, NestedKey.depthAll]
  have := dep_Es b.2
  omega
abbrev fP (t dn lh : Addr) : List (Str × V) := [("shape", .ref t), ("numbers", .ref dn), ("held", .ref lh)]
/-- the pool, what it holds standing apart from the lists W -/
structure PoolAt (P : Program) (w : World) (C : Addr) (W : List Addr) (H : Hp) (p t dn lh : Addr) (PB : List Bun) : Prop where
  ins : ∃ dx, H p = some (.ins C dx (fP t dn lh))
  nums : ∃ xs, H dn = some (NkO P w dn xs) ∧ xs.length = PB.length ∧ (∀ (n : Nat) (b : Bun), PB[n]? = some b → ∃ a, xs[n]? = some (keyB b, a, nV n)) ∧ NKeys (cut W H) xs
  held : ∃ hv, H lh = some (.lst hv) ∧ Paired (BunV (cut W H)) hv PB
theorem NKeys.mono {H H' : Hp} (e : Same H H') {xs : NEnts} (h : NKeys H xs) : NKeys H' xs := fun x hx => ⟨NK.mono e (h x hx).1, (h x hx).2⟩
theorem PoolAt.off {P : Program} {w : World} {C : Addr} {W V' : List Addr} {H H' : Hp} {p t dn lh : Addr} {PB : List Bun} (h : PoolAt P w C W H p t dn lh PB) (o : Off V' H H') (hs : ∀ b ∈ V', b ∈ W) (n1 : p ∉ V') (n2 : dn ∉ V') (n3 : lh ∉ V') : PoolAt P w C W H' p t dn lh PB := by
  have e : Same (cut W H) (cut W H') := (o.mono hs).cut
  obtain ⟨dx, hp⟩ := h.ins
  obtain ⟨xs, h1, h2, h3, h4⟩ := h.nums
  obtain ⟨hv, h5, h6⟩ := h.held
  exact ⟨⟨dx, o _ _ n1 hp⟩, ⟨xs, o _ _ n2 h1, h2, h3, h4.mono e⟩, ⟨hv, o _ _ n3 h5, Paired.mapP h6 fun _ _ z => z.mono e⟩⟩
theorem PoolAt.same {P : Program} {w : World} {C : Addr} {W : List Addr} {H H' : Hp} {p t dn lh : Addr} {PB : List Bun} (h : PoolAt P w C W H p t dn lh PB) (o : Same H H') : PoolAt P w C W H' p t dn lh PB :=
  h.off (V' := []) (Same.off o) (by simp) (by simp) (by simp) (by simp)
theorem nk_val {xs : NEnts} {PB : List Bun} (h2 : xs.length = PB.length) (h3 : ∀ (n : Nat) (b : Bun), PB[n]? = some b → ∃ a, xs[n]? = some (keyB b, a, nV n)) {b : Bun} : (∃ n, valN xs (keyB b) = some (nV n) ∧ PB[n]? = some b) ∨ valN xs (keyB b) = none := by
  unfold valN
  cases e : xs.find? fun x => decide (x.1 = keyB b) with
  | none => exact .inr rfl
  | some x =>
    refine .inl ?_
    have hm := List.mem_of_find?_eq_some e
    have hk := List.find?_some e
    obtain ⟨n, hn⟩ := List.mem_iff_getElem?.mp hm
    have hl := (List.getElem?_eq_some_iff.mp hn).1
    obtain ⟨a, ha⟩ := h3 n _ (List.getElem?_eq_getElem (show n < PB.length by omega))
    rw [hn] at ha
    have hx := Option.some.inj ha
    subst hx
    have := keyB_inj (of_decide_eq_true hk)
    exact ⟨n, rfl, by rw [List.getElem?_eq_getElem (show n < PB.length by omega), this]⟩
section
variable {P : Program} {w : World} {K : PySem.W.Frag} {mg : Str → Option Value} {base : Heap}
theorem nko_lst {a : Addr} {kvs : NEnts} {xs : List V} (h : some (HO.lst xs) = some (NkO P w a kvs)) : False := by
  unfold NkO at h
  cases h
theorem nko_tup {a : Addr} {kvs : NEnts} {xs : List V} (h : some (HO.tup xs) = some (NkO P w a kvs)) : False := by
  unfold NkO at h
  cases h
theorem nko_ins {a C dx : Addr} {kvs : NEnts} {xs : List (Str × V)} (h : some (HO.ins C dx xs) = some (NkO P w a kvs)) : False := by
  unfold NkO at h
  cases h
def sp_Pool_init (P : Program) (w : World) (C : Addr) : Sp := fun vs H Q _ => ∃ (x dx t : Addr), vs = [.ref x, .ref t] ∧ H x = some (.ins C dx []) ∧ ∀ dn lh H', H dn = none → H lh = none → dn ≠ lh → H' x = some (.ins C dx (fP t dn lh)) → H' dn = some (NkO P w dn []) → H' lh = some (.lst []) → Off [x] H H' → Q .non H'
theorem ok_Pool_init (T : Txt K mg) : FnOk P w K mg base CX0 1 T.f_Pool_init T.fd_Pool_init ["self", "tree"] (sp_Pool_init P w T.C_Pool) := by
  refine T.F_Pool_init.ok sc_Pool_init (fun vs H Q E h => ?_) (fun cdv A outer s H vs Q E hr h => ?_)
  · obtain ⟨_, _, _, rfl, _⟩ := h
    rfl
  · obtain ⟨x, dx, t, rfl, hx, q⟩ := h
    refine ⟨_, (pss_cons (ps_fld (pv 0) (pv 1) rfl)
    (pss_cons (ps_fld (pv 0) pe_dnewN rfl)
    (pss_one (ps_fld (pv 0) (pe_lst pa_nil) rfl)))), ?_⟩
    refine ⟨_, rfl, _, rfl, x, _, dx, [], rfl, hx, T.cl_Pool, T.na_Pool_shape, by simp, ?_⟩
    refine fun dn hdn => ?_
    have hdx : dn ≠ x := fun e => by rw [e, upd_same] at hdn; cases hdn
    refine ⟨_, rfl, x, _, dx, [("shape", .ref t)], rfl, Same.new hdn _ _ upd_same, T.cl_Pool, T.na_Pool_numbers, by simp, ?_⟩
    refine ⟨by decide, fun lh hlh => ?_⟩
    have hlx : lh ≠ x := fun e => by rw [e, upd_same] at hlh; cases hlh
    rw [upd_ne hlx] at hlh
    have hln : lh ≠ dn := fun e => by rw [e, upd_same] at hlh; cases hlh
    rw [upd_ne hln, upd_ne hlx] at hlh
    rw [upd_ne hdx] at hdn
    refine ⟨_, rfl, x, _, dx, [("shape", .ref t), ("numbers", .ref dn)], rfl, ?_, T.cl_Pool, T.na_Pool_held, by simp, ?_⟩
    · rw [upd_ne hlx.symm]
      exact upd_same
    refine q dn lh _ hdn hlh hln.symm upd_same ?_ ?_ fun b u hb e => ?_
    · rw [upd_ne hdx, upd_ne hln.symm, upd_ne hdx]
      exact upd_same
    · rw [upd_ne hlx]
      exact upd_same
    · have b1 : b ≠ x := by simpa using hb
      have b2 : b ≠ dn := fun z => by rw [z, hdn] at e; cases e
      have b3 : b ≠ lh := fun z => by rw [z, hlh] at e; cases e
      rw [upd_ne b1, upd_ne b3, upd_ne b1, upd_ne b2, upd_ne b1]
      exact e
theorem EntV.cutW {W : List Addr} {H : Hp} (hW : ∀ b ∈ W, ∃ o, H b = some o ∧ ∀ xs, o ≠ .tup xs) {v : V} {e : Ent} (h : EntV H v e) : EntV (cut W H) v e := by
  obtain ⟨a, b, rfl, h1, h2⟩ := h
  have k : ∀ {b : Addr} {xs : List V}, H b = some (.tup xs) → b ∉ W := fun {b xs} hb hm => by
    obtain ⟨o, ho, hn⟩ := hW b hm
    rw [hb] at ho
    exact hn xs (Option.some.inj ho).symm
  exact ⟨a, b, rfl, cut_some.mpr ⟨k h1, h1⟩, cut_some.mpr ⟨k h2, h2⟩⟩
def sp_Pool_put (P : Program) (w : World) (C : Addr) : Sp := fun vs H Q _ => ∃ (p t dn lh le : Addr) (W : List Addr) (PB : List Bun) (c : Str) (es : List Ent), vs = [.ref p, .str c, .ref le] ∧ PoolAt P w C W H p t dn lh PB ∧ dn ∈ W ∧ lh ∈ W ∧ (∀ b ∈ W, ∃ o, H b = some o ∧ ∀ xs, o ≠ .tup xs) ∧ EntsL H le es ∧ es ≠ [] ∧ es.length ≤ 13 ∧ (∀ e ∈ es, e.2.length ≤ 100) ∧ PB.length ≤ 1000 ∧
  ∀ n PB' H', (PB' = PB ∨ PB' = PB ++ [(c, es)]) → PB'[n]? = some (c, es) → PoolAt P w C W H' p t dn lh PB' → Off [dn, lh] H H' → Q (nV n) H'
theorem no_none (ds : List Nat) : inV .non (nVs ds) = false := by
  unfold inV nVs
  rw [List.any_map]
  exact List.any_eq_false.mpr fun x _ => by simp [eqV]
theorem flat_n (l : List Nat) : (nVs l).all flatV = true := by
  unfold nVs
  rw [List.all_map]
  exact List.all_eq_true.mpr fun x _ => rfl
theorem paired_of {R : V → Ent → Prop} : ∀ {us : List V} {es : List Ent}, us.length = es.length → (∀ (k : Nat) (v : V) (e : Ent), us[k]? = some v → es[k]? = some e → R v e) → Paired R us es
  | [], [], _, _ => .nil
  | [], _ :: _, h, _ => by simp at h
  | _ :: _, [], h, _ => by simp at h
  | v :: us, e :: es, h, q => .cons (q 0 v e rfl rfl) (paired_of (by simpa using h) fun k v e h1 h2 => q (k + 1) v e (by simpa using h1) (by simpa using h2))
theorem ok_Pool_put (T : Txt K mg) : FnOk P w K mg base CX0 1 T.f_Pool_put T.fd_Pool_put ["self", "column", "entries"] (sp_Pool_put P w T.C_Pool) := by
  refine T.F_Pool_put.ok sc_Pool_put (fun vs H Q E h => ?_) (fun cdv A outer s H vs Q E hr h => ?_)
  · obtain ⟨_, _, _, _, _, _, _, _, _, rfl, _⟩ := h
    rfl
  · obtain ⟨p, t, dn, lh, le, W, PB, c, es, rfl, hPA, hdW, hlW, hWn, ⟨ev, hle, hE⟩, hne, hes, hpl, hPBl, q⟩ := h
    refine ⟨_, (pss_cons (ps_setLc (i := 3) (own := [("value", 5), ("parts", 6)]) (by rfl) sc_Pool_put.nd rfl rfl (sw_true rfl rfl rfl (by decide +kernel)) (pi_list (pv 2)) (blkOk_by (N := N_Pool_put) (sc := defScope s_Pool_put) (by decide +kernel)) (fun _ _ _ _ _ => (pg_tupK (K := K) (n := 2) (by rfl) (pgs_cons (pg_name (i := 5) sc_Pool_put.nd rfl (Or.inl rfl)) (pgs_cons (pg_name (i := 6) sc_Pool_put.nd rfl (Or.inl rfl)) pgs_nil)))) (fun _ _ _ _ _ => (pts_one (pt_cmpR (op_notIn_seqK (K := K)) pe_non (pv 6) (by rfl)))) (fun _ _ _ _ _ => (pe_tup (pa_cons (pv 5) (pa_cons (pv 6) pa_nil)))))
    (pss_cons (ps_if (pt_cmpR (op_eqD hr.units) (pv 3) (pe_lst pa_nil) (nomark _)) (pss_one (ps_ret pe_non)) pss_nil)
    (pss_cons (ps_set (i := 4) sc_Pool_put.nd rfl (Or.inl rfl) (pe_tup (pa_cons (pv 1) (pa_cons (pe_callTy call_tuple_of (by rfl) T.n_tuple (by decide +kernel) (pa_cons (pv 3) pa_nil)) pa_nil))))
    (Evl.pss_cut (ps_if (pt_cmp (pc_dnotinT hr.units (pv 4) (pe_fld (pv 0) rfl))) (pss_cons (ps_dputT hr.units (pe_fld (pv 0) rfl) (pv 4) (pe_callB call_len_seq (by rfl) T.n_len PySem.boot_len (pa_cons (pe_fld (pv 0) rfl) pa_nil)) rfl)
      (pss_one (ps_expr (pe_bm PySem.F.plainAttrs_list PySem.F.slot_list_append PySem.F.type_list_append mt_append (pe_fld (pv 0) rfl) (pa_cons (pe_tup (pa_cons (pv 1) (pa_cons (pv 3) pa_nil))) pa_nil))))) pss_nil)
    (pss_one (ps_ret (pe_dgetT hr.units (pe_fld (pv 0) rfl) (pv 4) (fun _ _ => rfl)))))))), ?_⟩
    have hel := Paired.length hE
    refine ⟨_, rfl, le, rfl, ⟨ev, SqL.of hle⟩, fun D hD => ?_⟩
    refine lc_rel (walk_list (K := K) (a := le) (xs := ev)) (R := fun k v H' => ∀ e, es[k]? = some e → EntV H' v e) (fun k v Ha Hb sab h e he => (h e he).mono sab) hD (by omega) (fun H' s => SqL.of (s _ _ hle)) (fun k x H1 H2 acc hk s1 hacc y => ?_) fun us H1 s1 hus hul hur => ?_
    · obtain ⟨rfl, hx⟩ := y
      obtain ⟨e, he, a1, b1, rfl, h1, h2⟩ := Paired.ofL hE hx
      refine ⟨Same.refl _, fun Q' F hq => ⟨a1, _, rfl, SqT.of (s1 _ _ h1), rfl, _, _, rfl, _, _, rfl, rfl, rfl, ?_⟩⟩
      refine ⟨_, rfl, b1, _, rfl, .inr (SqT.of (s1 _ _ h2)), rfl, flat_n _, _, rfl, ?_⟩
      rw [no_none]
      refine ⟨_, rfl, _, rfl, big' (by simp), fun t1 ht1 => hq _ _ (Same.new ht1) fun e' he' => ?_⟩
      rw [he] at he'
      cases he'
      have hD1 : D ≠ t1 := fun z => by rw [← z, hacc] at ht1; cases ht1
      refine ⟨t1, b1, rfl, cutD upd_same hD1.symm, cutD (Same.new ht1 _ _ (s1 _ _ h2)) fun z => ?_⟩
      have := s1 _ _ h2
      rw [z, hacc] at this
      cases this
    · have hu2 : us.length = es.length := by rw [hul, hel]
      have hEu : Paired (EntV (cut [D] H1)) us es := paired_of hu2 fun k v e h1 h2 => hur k v h1 e h2
      have hEu1 : Paired (EntV H1) us es := Paired.mapP hEu fun _ _ z => z.mono cut_same
      refine ⟨_, rfl, by decide, fun z0 hz0 => ?_⟩
      have s2 := s1.trans (Same.new (o := .lst []) hz0)
      have hus2 := Same.new (o := .lst []) hz0 _ _ hus
      have hEu2 : Paired (EntV (upd H1 z0 (.lst []))) us es := Paired.mapP hEu1 fun _ _ z => z.mono (Same.new hz0)
      have hEuc : Paired (EntV (cut [D] (upd H1 z0 (.lst [])))) us es := Paired.mapP hEu fun _ _ z => z.mono (Same.cutW (Same.new hz0))
      refine ⟨_, _, dp_ents hus2 hEu2, dp_nil upd_same, shp_ents es, shp_nil, _, rfl, ?_⟩
      rw [eqv_nil]
      have e0 : (es.map dE).isEmpty = false := by cases es with
        | nil => exact absurd rfl hne
        | cons _ _ => rfl
      rw [e0]
      generalize (upd H1 z0 (.lst [])) = H2 at s2 hus2 hEu2 hEuc ⊢
      refine ⟨_, rfl, _, rfl, D, us, rfl, .inl ⟨SqL.of hus2, fun T1 hT1 => ⟨big' (by simp), fun K1 hK1 => ?_⟩⟩⟩
      have s3 := (s2.trans (Same.new (o := .tup us) hT1)).trans (Same.new (o := .tup [.str c, .ref T1]) hK1)
      have s23 := (Same.new (o := .tup us) hT1).trans (Same.new (o := .tup [.str c, .ref T1]) hK1)
      have hTv : (upd (upd H2 T1 (.tup us)) K1 (.tup [.str c, .ref T1])) T1 = some (.tup us) := Same.new hK1 _ _ upd_same
      have hKv : (upd (upd H2 T1 (.tup us)) K1 (.tup [.str c, .ref T1])) K1 = some (.tup [.str c, .ref T1]) := upd_same
      have hD3 := s23 _ _ hus2
      have hEu3 : Paired (EntV (upd (upd H2 T1 (.tup us)) K1 (.tup [.str c, .ref T1]))) us es := Paired.mapP hEu2 fun _ _ z => z.mono s23
      have hEc3 : Paired (EntV (cut [D] (upd (upd H2 T1 (.tup us)) K1 (.tup [.str c, .ref T1])))) us es := Paired.mapP hEuc fun _ _ z => z.mono (Same.cutW s23)
      have hT1n : H T1 = none := Same.fresh s2 hT1
      have hK1n : H K1 = none := Same.fresh (s2.trans (Same.new hT1)) hK1
      generalize (upd (upd H2 T1 (.tup us)) K1 (.tup [.str c, .ref T1])) = H3 at s3 hTv hKv hD3 hEu3 hEc3 ⊢
      have hPA3 := hPA.same s3
      obtain ⟨dx, hp3⟩ := hPA3.ins
      obtain ⟨xs, hdn3, hxl, hxs, hNK⟩ := hPA3.nums
      obtain ⟨hv, hlh3, hBp⟩ := hPA3.held
      have hWnew : ∀ {b : Addr}, H b = none → b ∉ W := fun {b} h hb => by
        obtain ⟨o, ho, _⟩ := hWn b hb
        rw [h] at ho
        cases ho
      have hDW : D ∉ W := hWnew hD
      have hEW : Paired (EntV (cut W H3)) us es := Paired.mapP hEu3 fun _ _ z => z.cutW fun b hb => by
        obtain ⟨o, ho, hn⟩ := hWn b hb
        exact ⟨o, s3 _ _ ho, hn⟩
      have hNk : NK (cut W H3) (keyB (c, es)) (.ref K1) := .tup (cut_some.mpr ⟨hWnew hK1n, hKv⟩) (.cons (.str c) (.cons (.tup (cut_some.mpr ⟨hWnew hT1n, hTv⟩) (nk_ents hEW)) .nil))
      have hNKs : NKeys H3 xs := hNK.mono cut_same
      refine ⟨fun σ' H' => ∃ (n : Nat) (PB' : List Bun) (v5 v6 : Option V), σ' = [some (.ref p), some (.str c), some (.ref le), some (.ref D), some (.ref K1), v5, v6] ∧ (PB' = PB ∨ PB' = PB ++ [(c, es)]) ∧ PB'[n]? = some (c, es) ∧ PoolAt P w T.C_Pool W H' p t dn lh PB' ∧ Off [dn, lh] H H' ∧ NK H' (keyB (c, es)) (.ref K1), ?_, ?_⟩
      · refine ⟨_, rfl, _, rfl, p, _, dx, _, _, rfl, hp3, T.cl_Pool, T.na_Pool_numbers, rfl, dn, K1, xs, keyB (c, es), rfl, rfl, hdn3, hNKs, hNk.mono cut_same, dep_B _, ?_⟩
        refine ⟨_, rfl, ?_⟩
        rcases nk_val hxl hxs (b := (c, es)) with ⟨n, hn, hPBn⟩ | hnone
        · rw [hn]
          exact ⟨n, PB, _, _, rfl, .inl rfl, hPBn, hPA3, Same.off s3, hNk.mono cut_same⟩
        · rw [hnone]
          have hhl : hv.length = PB.length := Paired.length hBp
          have hpd : p ≠ dn := fun e => by rw [e, hdn3] at hp3; exact nko_ins hp3.symm
          have hpl : p ≠ lh := fun e => by rw [e, hlh3] at hp3; cases hp3
          have hdl : dn ≠ lh := fun e => by rw [e, hlh3] at hdn3; exact nko_lst hdn3
          have hDd : D ≠ dn := fun e => by rw [e, hdn3] at hD3; exact nko_lst hD3.symm
          have hDl : D ≠ lh := fun e => hDW (e ▸ hlW)
          refine ⟨_, rfl, p, _, dx, _, _, rfl, hp3, T.cl_Pool, T.na_Pool_held, rfl, lh, hv, rfl, .inl (SqL.of hlh3), _, rfl, p, _, dx, _, _, rfl, hp3, T.cl_Pool, T.na_Pool_numbers, rfl, _, rfl, dn, K1, xs, keyB (c, es), rfl, rfl, hdn3, hNKs, hNk.mono cut_same, dep_B _, hnone, big (by omega), ?_⟩
          have hp4 : (upd H3 dn (NkO P w dn (xs ++ [(keyB (c, es), K1, .int hv.length)]))) p = some (.ins T.C_Pool dx (fP t dn lh)) := by rw [upd_ne hpd]; exact hp3
          have hlh4 : (upd H3 dn (NkO P w dn (xs ++ [(keyB (c, es), K1, .int hv.length)]))) lh = some (.lst hv) := by rw [upd_ne hdl.symm]; exact hlh3
          refine ⟨_, rfl, p, _, dx, fP t dn lh, _, rfl, hp4, T.cl_Pool, T.na_Pool_held, rfl, tyL hlh4, _, rfl, _, rfl, big' (by simp), fun T2 hT2 => ?_⟩
          have hT2d : T2 ≠ dn := fun e => by rw [e, upd_same] at hT2; cases hT2
          rw [upd_ne hT2d] at hT2
          have hT2l : T2 ≠ lh := fun e => by rw [e, hlh3] at hT2; cases hT2
          have hT2p : p ≠ T2 := fun e => by rw [← e, hp3] at hT2; cases hT2
          have hT2D : D ≠ T2 := fun e => by rw [← e, hD3] at hT2; cases hT2
          have hT2K : K1 ≠ T2 := fun e => by rw [← e, hKv] at hT2; cases hT2
          have hT2W : T2 ∉ W := hWnew (Same.fresh s3 hT2)
          refine ⟨lh, hv, _, rfl, rfl, (upd_ne hT2l.symm).trans hlh4, big (by omega), ?_⟩
          have ecut : Same (cut W H3) (cut W (upd (upd (upd H3 dn (NkO P w dn (xs ++ [(keyB (c, es), K1, .int hv.length)]))) T2 (.tup [.str c, .ref D])) lh (.lst (hv ++ [.ref T2])))) := by
            rw [put_cut hlW]
            intro b u e
            obtain ⟨h1, h2⟩ := cut_some.mp e
            refine cut_some.mpr ⟨h1, ?_⟩
            have b1 : b ≠ dn := fun z => h1 (z ▸ hdW)
            have b2 : b ≠ T2 := fun z => by rw [z, hT2] at h2; cases h2
            rw [upd_ne b2, upd_ne b1]
            exact h2
          refine ⟨PB.length, PB ++ [(c, es)], _, _, rfl, .inr rfl, by simp, ⟨⟨dx, ?_⟩, ⟨xs ++ [(keyB (c, es), K1, .int hv.length)], ?_, by simp [hxl], fun n b hn => ?_, fun x hx => ?_⟩, ⟨hv ++ [.ref T2], upd_same, Paired.snoc (Paired.mapP hBp fun _ _ z => z.mono ecut) ?_⟩⟩, ?_, ?_⟩
          · rw [upd_ne hpl, upd_ne hT2p, upd_ne hpd]
            exact hp3
          · rw [upd_ne hdl, upd_ne hT2d.symm, upd_same]
            rfl
          · rcases snoc_get hn with hn | ⟨rfl, rfl⟩
            · obtain ⟨a, ha⟩ := hxs n b hn
              exact ⟨a, by rw [List.getElem?_append_left (List.getElem?_eq_some_iff.mp ha).1]; exact ha⟩
            · exact ⟨K1, by rw [List.getElem?_append_right (by omega), hxl, hhl]; simp⟩
          · rcases List.mem_append.mp hx with hx | hx
            · exact ⟨NK.mono ecut (hNK x hx).1, (hNK x hx).2⟩
            · rw [List.mem_singleton.mp hx]
              exact ⟨NK.mono ecut hNk, dep_B _⟩
          · refine ⟨T2, D, rfl, cut_some.mpr ⟨hT2W, ?_⟩, us, ecut _ _ (cut_some.mpr ⟨hDW, hD3⟩), Paired.mapP hEW fun _ _ z => z.mono ecut⟩
            rw [upd_ne hT2l]
            exact upd_same
          · intro b u hb e
            have b1 : b ≠ dn := fun z => hb (by simp [z])
            have b2 : b ≠ lh := fun z => hb (by simp [z])
            have b3 : b ≠ T2 := fun z => by rw [z, Same.fresh s3 hT2] at e; cases e
            rw [upd_ne b2, upd_ne b3, upd_ne b1]
            exact s3 _ _ e
          · refine NK.mono ?_ (NK.mono ecut hNk)
            exact cut_same
      · rintro σ' H' ⟨n, PB', v5, v6, rfl, hPB', hn, hPA', o', hNk'⟩
        obtain ⟨dx', hp'⟩ := hPA'.ins
        obtain ⟨xs', hdn', hxl', hxs', hNK'⟩ := hPA'.nums
        obtain ⟨n', hval, hn'⟩ : ∃ n', valN xs' (keyB (c, es)) = some (nV n') ∧ PB'[n']? = some (c, es) := by
          rcases nk_val hxl' hxs' (b := (c, es)) with h | h
          · exact h
          · obtain ⟨a, ha⟩ := hxs' n _ hn
            unfold valN at h
            rw [Option.map_eq_none_iff, List.find?_eq_none] at h
            exact absurd (decide_eq_true rfl) (h _ (List.mem_of_getElem? ha))
        exact ⟨_, rfl, p, _, dx', _, _, rfl, hp', T.cl_Pool, T.na_Pool_numbers, rfl, _, rfl, dn, K1, xs', keyB (c, es), _, rfl, rfl, hdn', hNK'.mono cut_same, hNk', dep_B _, hval, q n' PB' H' hPB' hn' hPA' o'⟩
end
end Fb
set_option Elab.async false
set_option linter.all false
set_option maxRecDepth 100000
set_option maxHeartbeats 1000000
/-! A fold of a pool. -/
namespace Fb
open PySem PySem.Spec PyProof.Rows L2
structure VS (PB : List Bun) (dp lo : Addr) (H : Hp) (ord : List Nat) : Prop where
  pl : H dp = some (.dK (plK ord))
  od : H lo = some (.lst (nVs ord))
  nd : ord.Nodup
  lt : ∀ x ∈ ord, x < PB.length
theorem nodup_lt : ∀ {l : List Nat} {n : Nat}, l.Nodup → (∀ x ∈ l, x < n) → l.length ≤ n := by
  intro l n h1 h2
  have := nodup_le (M := List.range n) h1 fun x hx => List.mem_range.mpr (h2 x hx)
  rw [List.length_range] at this
  exact this
def Cls1 (PB : List Bun) (ord : List Nat) (x : Nat) : Prop := ∀ b, PB[x]? = some b → ∀ e ∈ b.2, ∀ d ∈ e.2, d ∈ ord
theorem Cls1.mono {PB : List Bun} {ord ord' : List Nat} {x : Nat} (h : Cls1 PB ord x) (s : ∀ y ∈ ord, y ∈ ord') : Cls1 PB ord' x := fun b hb e he d hd => s d (h b hb e he d hd)
section
variable {P : Program} {w : World} {K : PySem.W.Frag} {mg : Str → Option Value} {base : Heap}
def sp_visit (n : Nat) : Sp := fun vs H Q _ => ∃ (lh dp lo : Addr) (ps : Prs Str) (PB : List Bun) (ord : List Nat) (m : Nat) (b : Bun), vs = [.ref lh, nV m, .ref dp, .ref lo] ∧ GoodB ps PB ∧ PB.length ≤ 1000 ∧ BunsL (cut [dp, lo] H) lh PB ∧ dp ≠ lo ∧ VS PB dp lo H ord ∧ PB[m]? = some b ∧ rankP ps b.1 ≤ n ∧
  ∀ ord' H', (∀ x ∈ ord, x ∈ ord') → m ∈ ord' → VS PB dp lo H' ord' → (∀ x ∈ ord', x ∉ ord → Cls1 PB ord' x) → Off [dp, lo] H H' → Q .non H'
theorem ok_visit (T : Txt K mg) : ∀ n, FnOk P w K mg base CX0 (n + 1) T.f_visit T.fd_visit ["held", "number", "places", "order"] (sp_visit n) := by
  intro n
  induction n with
  | zero =>
    refine T.F_visit.ok sc_visit (fun vs H Q E h => ?_) (fun cdv A outer s H vs Q E hr h => ?_)
    · obtain ⟨_, _, _, _, _, _, _, _, rfl, _⟩ := h
      rfl
    · obtain ⟨lh, dp, lo, ps, PB, ord, m, b, rfl, g, hle, hB, hne, hV, hb, hk, _⟩ := h
      have := (rank_le g hb).1
      omega
  | succ n ih =>
    have G_visit := ih
    refine T.F_visit.ok sc_visit (fun vs H Q E h => ?_) (fun cdv A outer s H vs Q E hr h => ?_)
    · obtain ⟨_, _, _, _, _, _, _, _, rfl, _⟩ := h
      rfl
    · obtain ⟨lh, dp, lo, ps, PB, ord, m, b, rfl, g, hle, hB, hne, hV, hb, hk, q⟩ := h
      have hu := hu_of hr
      have hmB := (List.getElem?_eq_some_iff.mp hb).1
      have hol := nodup_lt hV.nd hV.lt
      refine ⟨_, (pss_cons (ps_if (pt_cmp (pc_din hu (pv 1) (pv 2))) (pss_one ps_retN) pss_nil)
    (pss_cons (ps_dput hu (pv 2) (pv 1) (pe_callB call_len_seq (by rfl) T.n_len PySem.boot_len (pa_cons (pv 3) pa_nil)) rfl)
    (pss_cons (ps_expr (pe_bm PySem.F.plainAttrs_list PySem.F.slot_list_append PySem.F.type_list_append mt_append (pv 3) (pa_cons (pv 1) pa_nil)))
    (pss_one (ps_for PassesOwn.never (by rfl) (pi_list (pe_ix ix_tup (pe_ix ix_list (pv 0) (pv 1) (fun _ _ => rfl)) pe_int (fun _ _ => rfl))) (pg_tup (by rfl) (pgs_cons (pg_name (i := 4) sc_visit.nd rfl (Or.inl rfl)) (pgs_cons (pg_name (i := 5) sc_visit.nd rfl (Or.inl rfl)) pgs_nil))) (pss_one (ps_for PassesOwn.never (by rfl) (pi_tup (pv 5)) (pg_name (i := 6) sc_visit.nd rfl (Or.inl rfl)) (pss_one (ps_expr (pe_call G_visit (hr.mono (by omega)) (by rfl) T.m_visit T.F_visit.kp T.b_visit .nil pass0 (pa_cons (pv 0) (pa_cons (pv 6) (pa_cons (pv 2) (pa_cons (pv 3) pa_nil)))))))))))))), ?_⟩
      refine ⟨_, rfl, _, rfl, dp, _, rfl, DGet.k (k := Sum.inl (m : Int)) hV.pl, _, rfl, ?_⟩
      rw [plK_get]
      by_cases hm : m ∈ ord
      · rw [if_pos hm]
        exact q ord H (fun x hx => hx) hm hV (fun x hx hn => absurd hx hn) Off.refl
      · rw [if_neg hm]
        refine ⟨_, rfl, lo, nVs ord, rfl, .inl (SqL.of hV.od), _, rfl, _, rfl, dp, _, rfl, DPut.k (k := Sum.inl (m : Int)) hV.pl (big (by simp [plK]; omega)), ?_⟩
        rw [nVs_len, plK_snoc hm]
        have hlo1 : (upd H dp (.dK (plK (ord ++ [m])))) lo = some (.lst (nVs ord)) := by rw [upd_ne hne.symm]; exact hV.od
        refine ⟨_, rfl, tyL hlo1, _, rfl, lo, _, _, rfl, rfl, hlo1, big (by rw [nVs_len]; omega), ?_⟩
        have hV1 : VS PB dp lo (upd (upd H dp (.dK (plK (ord ++ [m])))) lo (.lst (nVs ord ++ [nV m]))) (ord ++ [m]) := by
          refine ⟨by rw [upd_ne hne]; exact upd_same, by rw [upd_same]; simp [nVs], ?_, ?_⟩
          · refine List.nodup_append.mpr ⟨hV.nd, by simp, fun x hx y hy e => ?_⟩
            rw [List.mem_singleton.mp hy] at e
            exact hm (e ▸ hx)
          · intro x hx
            rcases List.mem_append.mp hx with hx | hx
            · exact hV.lt x hx
            · rw [List.mem_singleton.mp hx]; exact hmB
        have o1 : Off [dp, lo] H (upd (upd H dp (.dK (plK (ord ++ [m])))) lo (.lst (nVs ord ++ [nV m]))) := (Off.put (by simp)).trans (Off.put (by simp))
        generalize (upd (upd H dp (.dK (plK (ord ++ [m])))) lo (.lst (nVs ord ++ [nV m]))) = H1 at hV1 o1 ⊢
        obtain ⟨bv, ta, le, hbv, hbl, hat, hta, ev, hev, hE⟩ := (hB.mono o1.cut).at hb
        have hbv1 := cut_same _ _ hbv
        have hta1 := cut_same _ _ hta
        have hev1 := cut_same _ _ hev
        have hleW := (cut_some.mp hev).1
        refine ⟨_, rfl, _, rfl, lh, _, _, _, rfl, rfl, SqL.of hbv1, atI_nat hat, ta, _, _, _, rfl, rfl, SqT.of hta1, rfl, le, rfl, ⟨ev, SqL.of hev1⟩, ?_⟩
        have hel := Paired.length hE
        refine for_it (walk_list (K := K) (a := le) (xs := ev)) (fun i σ H' => ∃ (ord1 : List Nat) (v4 v5 v6 : Option V), σ = [some (.ref lh), some (nV m), some (.ref dp), some (.ref lo), v4, v5, v6] ∧ VS PB dp lo H' ord1 ∧ (∀ x ∈ ord ++ [m], x ∈ ord1) ∧ (∀ x ∈ ord1, x ∉ ord ++ [m] → Cls1 PB ord1 x) ∧ (∀ e ∈ b.2.take i, ∀ d ∈ e.2, d ∈ ord1) ∧ Off [dp, lo] H1 H') ?_ ?_ ?_ ?_
        · exact ⟨ord ++ [m], none, none, none, rfl, hV1, fun x hx => hx, fun x hx hn => absurd hx hn, (fun e he => by simp at he), Off.refl⟩
        · rintro i σ H' hi ⟨ord1, v4, v5, v6, _, _, _, _, _, o⟩
          exact SqL.of (o _ _ hleW hev1)
        · rintro i x σ H3 H2 hi ⟨ord1, v4, v5, v6, rfl, hV2, hs2, hc2, hp2, o2⟩ ⟨rfl, hx⟩
          obtain ⟨e, he, a1, b1, rfl, h1, h2⟩ := Paired.ofL hE hx
          have hem := List.mem_of_getElem? he
          have h1W := (cut_some.mp h1).1
          have h2W := (cut_some.mp h2).1
          have h1' := o2 _ _ h1W (cut_same _ _ h1)
          have h2' := o2 _ _ h2W (cut_same _ _ h2)
          refine ⟨a1, _, rfl, SqT.of h1', rfl, _, _, rfl, _, _, rfl, rfl, ?_⟩
          refine ⟨_, rfl, b1, rfl, ⟨_, SqT.of h2'⟩, ?_⟩
          refine for_it (walk_tup (K := K) (a := b1) (xs := nVs e.2)) (fun j σ H' => ∃ (ord2 : List Nat) (v4 v5 v6 : Option V), σ = [some (.ref lh), some (nV m), some (.ref dp), some (.ref lo), v4, v5, v6] ∧ VS PB dp lo H' ord2 ∧ (∀ x ∈ ord ++ [m], x ∈ ord2) ∧ (∀ x ∈ ord2, x ∉ ord ++ [m] → Cls1 PB ord2 x) ∧ (∀ e ∈ b.2.take i, ∀ d ∈ e.2, d ∈ ord2) ∧ (∀ d ∈ e.2.take j, d ∈ ord2) ∧ Off [dp, lo] H1 H') ?_ ?_ ?_ ?_
          · exact ⟨ord1, _, _, _, rfl, hV2, hs2, hc2, hp2, (fun d hd => by simp at hd), o2⟩
          · rintro j σ H' hj ⟨ord2, v4, v5, v6, _, _, _, _, _, _, o⟩
            exact SqT.of (o _ _ h2W (cut_same _ _ h2))
          · rintro j z σ H5 H4 hj ⟨ord2, v4, v5, v6, rfl, hV4, hs4, hc4, hp4, hq4, o4⟩ ⟨rfl, hz⟩
            obtain ⟨d, hd, rfl⟩ := nVs_some hz
            obtain ⟨kc, b', hk1, hb', hk2⟩ := (g.parts m b hb e hem).at hd
            have hrk : rankP ps b'.1 ≤ n := by
              rw [← hk2] at hk1
              have := (rank_kid g.gp (List.mem_of_getElem? hk1)).1
              omega
            refine ⟨_, rfl, _, rfl, _, rfl, _, rfl, lh, dp, lo, ps, PB, ord2, d, b', rfl, g, hle, hB.mono (Same.trans o1.cut o4.cut), hne, hV4, hb', hrk, fun ord3 H5 hs5 hd5 hV5 hc5 o5 => ?_⟩
            refine ⟨ord3, _, _, _, rfl, hV5, fun x hx => hs5 x (hs4 x hx), fun x hx hn => ?_, fun e he d hd => hs5 d (hp4 e he d hd), fun y hy => ?_, o4.trans o5⟩
            · by_cases hx2 : x ∈ ord2
              · exact (hc4 x hx2 hn).mono hs5
              · exact hc5 x hx hx2
            · rw [take_at hd] at hy
              rcases List.mem_append.mp hy with hy | hy
              · exact hs5 y (hq4 y hy)
              · rw [List.mem_singleton.mp hy]; exact hd5
          · rintro σ H4 ⟨ord2, v4, v5, v6, rfl, hV4, hs4, hc4, hp4, hq4, o4⟩
            rw [nVs_len, List.take_length] at hq4
            refine ⟨ord2, _, _, _, rfl, hV4, hs4, hc4, fun y hy => ?_, o4⟩
            rw [take_at he] at hy
            rcases List.mem_append.mp hy with hy | hy
            · exact hp4 y hy
            · rw [List.mem_singleton.mp hy]; exact hq4
        · rintro σ H2 ⟨ord1, v4, v5, v6, rfl, hV2, hs2, hc2, hp2, o2⟩
          rw [hel, List.take_length] at hp2
          refine q ord1 H2 (fun x hx => hs2 x (List.mem_append_left _ hx)) (hs2 m (by simp)) hV2 (fun x hx hn => ?_) (o1.trans o2)
          by_cases hxm : x = m
          · subst hxm
            intro b' hb' e he d hd
            rw [hb] at hb'
            cases hb'
            exact hp2 e he d hd
          · exact hc2 x hx (by simp [hn, hxm])
def sp_Pool_fold (P : Program) (w : World) (C D F : Addr) : Sp := fun vs H Q _ => ∃ (p t dn lh lp : Addr) (W : List Addr) (ps : Prs Str) (PB : List Bun) (ts : List Nat), vs = [.ref p, .ref lp] ∧ PoolAt P w C W H p t dn lh PB ∧ TreeAt P w D H t ps ∧ GoodB ps PB ∧ PB.length ≤ 1000 ∧ NT H lp ts ∧ PartsOk ps PB none ts ∧
  ∀ (f : Addr) (B1 : List Bun) (pl : Nat → Nat) (Vd : Nat → Prop) H', Mv PB B1 pl Vd → (∀ t ∈ ts, Vd t) → B1.length ≤ 1000 → FoldAt P w F D H' f ps B1 (ts.map pl) → Same H H' → Q (.ref f) H'
theorem ok_Pool_fold (T : Txt K mg) : FnOk P w K mg base CX0 12 T.f_Pool_fold T.fd_Pool_fold ["self", "tops"] (sp_Pool_fold P w T.C_Pool T.C_Tree T.C_Fold) := by
  have G_visit : FnOk P w K mg base CX0 9 T.f_visit T.fd_visit ["held", "number", "places", "order"] (sp_visit 8) := ok_visit T 8
  have G_Fold_init : FnOk P w K mg base CX0 1 T.f_Fold_init T.fd_Fold_init ["self", "tree", "bunches", "tops"] (sp_Fold_init T.C_Fold) := ok_Fold_init T
  have G_moved : FnOk P w K mg base CX0 1 T.f_moved T.fd_moved ["parts", "places"] sp_moved := ok_moved T
  refine T.F_Pool_fold.ok sc_Pool_fold (fun vs H Q E h => ?_) (fun cdv A outer s H vs Q E hr h => ?_)
  · obtain ⟨_, _, _, _, _, _, _, _, _, rfl, _⟩ := h
    rfl
  · obtain ⟨p, t, dn, lh, lp, W, ps, PB, ts, rfl, hPA, hT, g, hle, hlp, htp, q⟩ := h
    have hu := hu_of hr
    obtain ⟨dx, hp⟩ := hPA.ins
    obtain ⟨hv, hlh, hBp⟩ := hPA.held
    have hBL : BunsL H lh PB := ⟨hv, hlh, Paired.mapP hBp fun _ _ z => z.mono cut_same⟩
    refine ⟨_, (pss_cons (ps_if (PW.pt (pw_or (pt_cmpR op_isN (pv 1) pe_non (nomark _)) (pw_or1 (pt_cmpR op_in_seq pe_non (pv 1) (by rfl))))) (pss_one (ps_ret (pe_make T.M_Fold G_Fold_init (hr.mono (by omega)) (by rfl) T.mC_Fold T.b_Fold_init .nil pass0 (pa_cons (pe_fld (pv 0) rfl) (pa_cons (pe_lst pa_nil) (pa_cons pe_non pa_nil)))))) pss_nil)
    (pss_cons (ps_set (i := 2) sc_Pool_fold.nd rfl (Or.inr rfl) pe_dnewK)
    (pss_cons (ps_set (i := 3) sc_Pool_fold.nd rfl (Or.inl rfl) (pe_lst pa_nil))
    (pss_cons (ps_for PassesOwn.never (by rfl) (pi_tup (pv 1)) (pg_name (i := 4) sc_Pool_fold.nd rfl (Or.inl rfl)) (pss_one (ps_expr (pe_call G_visit (hr.mono (by omega)) (by rfl) T.m_visit T.F_visit.kp T.b_visit .nil pass0 (pa_cons (pe_fld (pv 0) rfl) (pa_cons (pv 4) (pa_cons (pv 2) (pa_cons (pv 3) pa_nil))))))))
    (pss_cons (ps_set (i := 5) sc_Pool_fold.nd rfl (Or.inl rfl) (pe_lst pa_nil))
    (pss_cons (ps_for PassesOwn.never (by rfl) (pi_list (pv 3)) (pg_name (i := 6) sc_Pool_fold.nd rfl (Or.inl rfl)) (pss_cons (ps_asg (pe_ix ix_list (pe_fld (pv 0) rfl) (pv 6) (fun _ _ => rfl)) (pg_tup (by rfl) (pgs_cons (pg_name (i := 7) sc_Pool_fold.nd rfl (Or.inl rfl)) (pgs_cons (pg_name (i := 8) sc_Pool_fold.nd rfl (Or.inl rfl)) pgs_nil))))
      (pss_one (ps_expr (pe_bm PySem.F.plainAttrs_list PySem.F.slot_list_append PySem.F.type_list_append mt_append (pv 5) (pa_cons (pe_tup (pa_cons (pv 7) (pa_cons (pe_lc (own := [("value", 9), ("parts", 10)]) (by rfl) sc_Pool_fold.nd (pi_list (pv 8)) (blkOk_by (N := N_Pool_fold) (sc := defScope s_Pool_fold) (by decide +kernel)) (fun _ _ _ _ _ => (pg_tupK (K := K) (n := 2) (by rfl) (pgs_cons (pg_name (i := 9) sc_Pool_fold.nd rfl (Or.inl rfl)) (pgs_cons (pg_name (i := 10) sc_Pool_fold.nd rfl (Or.inl rfl)) pgs_nil)))) (fun _ _ _ _ _ => pts_nil) (fun _ _ _ _ _ => (pe_tup (pa_cons (pv 9) (pa_cons (pe_call G_moved (hr.mono (by omega)) (by rfl) T.m_moved T.F_moved.kp T.b_moved .nil pass0 (pa_cons (pv 10) (pa_cons (pv 2) pa_nil))) pa_nil))))) pa_nil))) pa_nil))))))
    (pss_one (ps_ret (pe_make T.M_Fold G_Fold_init (hr.mono (by omega)) (by rfl) T.mC_Fold T.b_Fold_init .nil pass0 (pa_cons (pe_fld (pv 0) rfl) (pa_cons (pv 5) (pa_cons (pe_call G_moved (hr.mono (by omega)) (by rfl) T.m_moved T.F_moved.kp T.b_moved .nil pass0 (pa_cons (pv 1) (pa_cons (pv 2) pa_nil))) pa_nil)))))))))))), ?_⟩
    refine ⟨_, rfl, rfl, _, rfl, ?_⟩
    refine ⟨_, rfl, lp, _, rfl, .inr (SqT.of hlp), rfl, flat_n _, _, rfl, ?_⟩
    rw [no_none]
    refine fun dp hdp => ⟨by decide, fun lo hlo => ?_⟩
    have hdl : dp ≠ lo := fun e => by rw [← e, upd_same] at hlo; cases hlo
    have s1 : Same H (upd (upd H dp (.dK [])) lo (.lst [])) := (Same.new hdp).trans (Same.new hlo)
    have hloH : H lo = none := Same.fresh (Same.new hdp) hlo
    have hV1 : VS PB dp lo (upd (upd H dp (.dK [])) lo (.lst [])) [] := ⟨by rw [upd_ne hdl]; exact upd_same, upd_same, List.nodup_nil, fun x hx => by cases hx⟩
    generalize (upd (upd H dp (.dK [])) lo (.lst [])) = H1 at s1 hV1 ⊢
    have hdo : ∀ {b : Addr} {o : HO}, H b = some o → b ∉ [dp, lo] := fun {b o} h m => by
      simp only [List.mem_cons, List.not_mem_nil, or_false] at m
      rcases m with m | m
      · rw [m, hdp] at h; cases h
      · rw [m, hloH] at h; cases h
    have hsc : Same H (cut [dp, lo] H1) := fun b o e => cut_some.mpr ⟨hdo e, s1 _ _ e⟩
    refine ⟨_, rfl, lp, rfl, ⟨_, SqT.of (s1 _ _ hlp)⟩, ?_⟩
    refine for_it (walk_tup (K := K) (a := lp) (xs := nVs ts)) (fun i σ H' => ∃ (ord : List Nat) (v4 v5 v6 v7 v8 v9 v10 : Option V), σ = [some (.ref p), some (.ref lp), some (.ref dp), some (.ref lo), v4, v5, v6, v7, v8, v9, v10] ∧ VS PB dp lo H' ord ∧ (∀ x ∈ ord, Cls1 PB ord x) ∧ (∀ d ∈ ts.take i, d ∈ ord) ∧ Off [dp, lo] H1 H') ?_ ?_ ?_ ?_
    · exact ⟨[], none, none, none, none, none, none, none, rfl, hV1, (fun x hx => by cases hx), (fun d hd => by simp at hd), Off.refl⟩
    · rintro i σ H' hi ⟨ord, v4, v5, v6, v7, v8, v9, v10, _, _, _, _, o⟩
      exact SqT.of (o _ _ (hdo hlp) (s1 _ _ hlp))
    · rintro i z σ H3 H2 hi ⟨ord, v4, v5, v6, v7, v8, v9, v10, rfl, hV2, hc2, ht2, o2⟩ ⟨rfl, hz⟩
      obtain ⟨d, hd, rfl⟩ := nVs_some hz
      obtain ⟨kc, b, _, hb, _⟩ := htp.at hd
      have hp2 := o2 _ _ (hdo hp) (s1 _ _ hp)
      refine ⟨_, rfl, p, _, dx, _, _, rfl, hp2, T.cl_Pool, T.na_Pool_held, rfl, _, rfl, _, rfl, _, rfl, lh, dp, lo, ps, PB, ord, d, b, rfl, g, hle, hBL.mono (hsc.trans o2.cut), hdl, hV2, hb, (rank_le g hb).2, fun ord3 H5 hs5 hd5 hV5 hc5 o5 => ?_⟩
      refine ⟨ord3, _, _, _, _, _, _, _, rfl, hV5, fun x hx => ?_, fun y hy => ?_, o2.trans o5⟩
      · by_cases hx2 : x ∈ ord
        · exact (hc2 x hx2).mono hs5
        · exact hc5 x hx hx2
      · rw [take_at hd] at hy
        rcases List.mem_append.mp hy with hy | hy
        · exact hs5 y (ht2 y hy)
        · rw [List.mem_singleton.mp hy]; exact hd5
    · rintro σ H2 ⟨ord, v4, v5, v6, v7, v8, v9, v10, rfl, hV2, hc2, ht2, o2⟩
      rw [nVs_len, List.take_length] at ht2
      have hol := nodup_lt hV2.nd hV2.lt
      have hS2 : Same H H2 := fun b o e => o2 _ _ (hdo e) (s1 _ _ e)
      refine ⟨by decide, fun ln hln => ?_⟩
      have hlnH : H ln = none := Same.fresh hS2 hln
      have s3 : Same H2 (upd H2 ln (.lst [])) := Same.new hln
      have hlnlo : lo ≠ ln := fun e => by
        have := hV2.od
        rw [e, hln] at this; cases this
      refine ⟨_, rfl, lo, rfl, ⟨_, SqL.of (s3 _ _ hV2.od)⟩, ?_⟩
      refine for_it (walk_list (K := K) (a := lo) (xs := nVs ord)) (fun i σ H' => ∃ (nv : List V) (v4 v6 v7 v8 v9 v10 : Option V), σ = [some (.ref p), some (.ref lp), some (.ref dp), some (.ref lo), v4, some (.ref ln), v6, v7, v8, v9, v10] ∧ H' ln = some (.lst nv) ∧ Paired (BunV (cut [ln] H')) nv ((ord.take i).map fun n => (PB[n]?).elim ("", []) (mvB ord.idxOf)) ∧ Same H2 H') ?_ ?_ ?_ ?_
      · exact ⟨[], _, _, _, _, _, _, rfl, upd_same, .nil, s3⟩
      · rintro i σ H' hi ⟨nv, v4, v6, v7, v8, v9, v10, _, _, _, s⟩
        exact SqL.of (s _ _ hV2.od)
      · rintro i z σ H4 H3 hi ⟨nv, v4, v6, v7, v8, v9, v10, rfl, hn3, hB3, sz3⟩ ⟨rfl, hz⟩
        obtain ⟨n, hn, rfl⟩ := nVs_some hz
        have hnm := mem_at hn
        have hnl := hV2.lt n hnm
        have hb : PB[n]? = some PB[n] := List.getElem?_eq_getElem hnl
        have S3 := hS2.trans sz3
        obtain ⟨bv, ta, le, hbv, hbl, hat, hta, ev, hev, hE⟩ := (hBL.mono S3).at hb
        refine ⟨_, rfl, p, _, dx, _, _, rfl, S3 _ _ hp, T.cl_Pool, T.na_Pool_held, rfl, _, rfl, lh, _, _, _, rfl, rfl, SqL.of hbv, atI_nat hat, ta, _, rfl, SqT.of hta, rfl, _, _, rfl, _, _, rfl, rfl, ?_⟩
        have hel := Paired.length hE
        have hel2 := g.le n _ hb
        refine ⟨_, rfl, tyL hn3, _, rfl, _, rfl, le, rfl, ⟨ev, SqL.of hev⟩, fun D hD => ?_⟩
        have hlnD : ln ≠ D := fun e => by rw [e, hD] at hn3; cases hn3
        have hV3 : H3 dp = some (.dK (plK ord)) := sz3 _ _ hV2.pl
        refine lc_rel (walk_list (K := K) (a := le) (xs := ev)) (R := fun k v H' => ∀ e, PB[n].2[k]? = some e → EntV H' v (mvE ord.idxOf e)) (fun k v Ha Hb sab h e he => (h e he).mono sab) hD (by omega) (fun H' s => SqL.of (s _ _ hev)) (fun k x H5 H6 acc hk s5 hacc y => ?_) fun us H5 s5 hus hul hur => ?_
        · obtain ⟨rfl, hx⟩ := y
          obtain ⟨e, he, a1, b1, rfl, h1, h2⟩ := Paired.ofL hE hx
          have hem := List.mem_of_getElem? he
          have hcl := hc2 n hnm _ hb e hem
          have hpo := g.parts n _ hb e hem
          have hpl : e.2.length ≤ 8 := by
            rw [hpo.1]
            exact Nat.le_trans kids_le g.gp.le
          refine ⟨Same.refl _, fun Q' F hq => ⟨a1, _, rfl, SqT.of (s5 _ _ h1), rfl, _, _, rfl, _, _, rfl, rfl, rfl, yesI ?_⟩⟩
          refine ⟨_, rfl, _, rfl, _, rfl, b1, dp, plK ord, e.2, ord.idxOf, rfl, s5 _ _ h2, s5 _ _ hV3, by omega, fun d hd => by rw [plK_get, if_pos (hcl d hd)], fun a3 H6 s6 ha3 => ⟨big' (by simp), fun t1 ht1 => ?_⟩⟩
          refine hq _ _ (s6.trans (Same.new ht1)) fun e' he' => ?_
          rw [he] at he'
          cases he'
          have hD6 := s6 _ _ hacc
          have hD1 : D ≠ t1 := fun z => by rw [← z, hD6] at ht1; cases ht1
          refine ⟨t1, a3, rfl, cutD upd_same hD1.symm, cutD (Same.new ht1 _ _ ha3) fun z => ?_⟩
          rw [z, hD6] at ha3
          cases ha3
        · have hu2 : us.length = (PB[n].2.map (mvE ord.idxOf)).length := by rw [hul, hel, List.length_map]
          have hEu : Paired (EntV H5) us (PB[n].2.map (mvE ord.idxOf)) := by
            refine paired_of hu2 fun k v e h1 h2 => ?_
            rw [List.getElem?_map] at h2
            obtain ⟨e0, h3, rfl⟩ := Option.map_eq_some_iff.mp h2
            exact (hur k v h1 e0 h3).mono cut_same
          have hn5 := s5 _ _ hn3
          refine ⟨big' (by simp), fun T2 hT2 => ?_⟩
          have hT2n : T2 ≠ ln := fun e => by rw [e, hn5] at hT2; cases hT2
          have hT2D : T2 ≠ D := fun e => by rw [e, hus] at hT2; cases hT2
          have s6 : Same H5 (upd H5 T2 (.tup [.str PB[n].1, .ref D])) := Same.new hT2
          have hnvl : nv.length ≤ 1000 := by
            have h1 := Paired.length hB3
            rw [List.length_map, List.length_take] at h1
            omega
          refine ⟨ln, nv, _, rfl, rfl, s6 _ _ hn5, big (by omega), nv ++ [.ref T2], _, _, _, _, _, _, rfl, upd_same, ?_, ?_⟩
          · rw [put_cut (by simp), take_at hn, List.map_append, List.map_cons, List.map_nil, hb]
            refine Paired.snoc (Paired.mapP hB3 fun _ _ z => z.mono (Same.cutW (s5.trans s6))) ?_
            have hEu6 : Paired (EntV (upd H5 T2 (.tup [.str PB[n].1, .ref D]))) us (PB[n].2.map (mvE ord.idxOf)) := Paired.mapP hEu fun _ _ z => z.mono s6
            refine ⟨T2, D, rfl, cutD upd_same hT2n, us, cutD (s6 _ _ hus) hlnD.symm, Paired.mapP hEu6 fun _ _ z => z.cutW fun b hb => ?_⟩
            rw [List.mem_singleton.mp hb]
            exact ⟨_, s6 _ _ hn5, by simp⟩
          · intro b u e
            rw [upd_ne (fun z => by rw [z, hln] at e; cases e)]
            exact s6 _ _ (s5 _ _ (sz3 _ _ e))
      · rintro σ H3 ⟨nv, v4, v6, v7, v8, v9, v10, rfl, hn3, hB3, sz3⟩
        rw [nVs_len, List.take_length] at hB3
        have S3 := hS2.trans sz3
        have htl : ts.length ≤ 8 := by
          rw [htp.1]
          exact Nat.le_trans kids_le g.gp.le
        have hb3 : BunsL H3 ln (ord.map fun n => (PB[n]?).elim ("", []) (mvB ord.idxOf)) := ⟨nv, hn3, Paired.mapP hB3 fun _ _ z => z.mono cut_same⟩
        refine ⟨_, rfl, p, _, dx, _, _, rfl, S3 _ _ hp, T.cl_Pool, T.na_Pool_shape, rfl, _, rfl, _, rfl, _, rfl, lp, dp, plK ord, ts, ord.idxOf, rfl, S3 _ _ hlp, sz3 _ _ hV2.pl, by omega, fun d hd => by rw [plK_get, if_pos (ht2 d hd)], fun a3 H4 s4 ha3 => fun x dfx hx0 hdx0 hne => ?_⟩
        refine ⟨x, dfx, .ref t, .ref ln, .ref a3, rfl, upd_same, rfl, ?_⟩
        have S4 := S3.trans s4
        have sF : Same H4 (upd (upd (upd (upd (upd H4 dfx (.own x)) x (.ins T.C_Fold dfx [])) x (.ins T.C_Fold dfx [("shape", .ref t)])) x (.ins T.C_Fold dfx [("shape", .ref t), ("held", .ref ln)])) x (.ins T.C_Fold dfx [("shape", .ref t), ("held", .ref ln), ("roots", .ref a3)])) := fun b u e => by
          have b1 : b ≠ x := fun z => by rw [z, hx0] at e; cases e
          rw [upd_ne b1, upd_ne b1, upd_ne b1]
          exact Same.make hx0 hdx0 hne _ _ e
        refine q x _ ord.idxOf (· ∈ ord) _ ⟨fun n hn => ?_, fun n' b' h => ?_⟩ ht2 (by rw [List.length_map]; omega) ⟨dfx, t, ln, a3, upd_same, hT.mono (S4.trans sF), (hb3.mono (s4.trans sF)), sF _ _ ha3⟩ (S4.trans sF)
        · have hnl := hV2.lt n hn
          have hb : PB[n]? = some PB[n] := List.getElem?_eq_getElem hnl
          refine ⟨PB[n], hb, fun e he d hd => hc2 n hn _ hb e he d hd, ?_⟩
          rw [List.getElem?_map, List.getElem?_eq_getElem (List.idxOf_lt_length_of_mem hn), List.getElem_idxOf, Option.map_some, hb]
          rfl
        · rw [List.getElem?_map] at h
          obtain ⟨n, hn, rfl⟩ := Option.map_eq_some_iff.mp h
          have hnl := hV2.lt n (mem_at hn)
          have hb : PB[n]? = some PB[n] := List.getElem?_eq_getElem hnl
          exact ⟨n, PB[n], hb, by rw [hb]; rfl, fun e he d hd => hc2 n (mem_at hn) _ hb e he d hd⟩
end
end Fb
set_option Elab.async false
set_option linter.all false
set_option maxRecDepth 100000
set_option maxHeartbeats 2000000
/-! fold_of. -/
namespace Fb
open PySem PySem.Spec PyProof.Rows L2
theorem parts_done {ps : Prs Str} {B : List Bun} (g : GoodB ps B) {i n : Nat} {b : Bun} (hb : B[n]? = some b) (h : b.1 ∈ (order ps).reverse.take (i + 1)) : ∀ e ∈ b.2, ∀ d ∈ e.2, ∃ b', B[d]? = some b' ∧ b'.1 ∈ (order ps).reverse.take i := by
  intro e he d hd
  obtain ⟨k, b', hk, hb', hk2⟩ := (g.parts n b hb e he).mem hd
  refine ⟨b', hb', ?_⟩
  obtain ⟨j, hj⟩ := List.mem_iff_getElem?.mp h
  rw [List.getElem?_take] at hj
  split at hj
  · rename_i hji
    have hsp := split_at hj
    have h5 := congrArg List.reverse hsp
    rw [List.reverse_reverse, List.reverse_append, List.reverse_cons, List.append_assoc] at h5
    have h6 := kid_behind g.gp (l1 := ((order ps).reverse.drop (j + 1)).reverse) (l2 := ((order ps).reverse.take j).reverse) (by exact h5) hk
    have h7 := List.mem_reverse.mp h6
    rw [hk2]
    exact (List.take_sublist_take_left (by omega : j ≤ i)).subset h7
  · cases hj
structure FI (B PB : List Bun) (F : Nat → Nat) (fv : List V) (Dn : Nat → Prop) : Prop where
  a : ∀ (n : Nat) (b : Bun), B[n]? = some b → Dn n → fv[n]? = some (nV (F n)) ∧ PB[F n]? = some (mvB F b)
  s : ∀ (k : Nat) (b' : Bun), PB[k]? = some b' → ∃ (n : Nat) (b : Bun), B[n]? = some b ∧ Dn n ∧ b' = mvB F b
theorem FI.iff {B PB : List Bun} {F : Nat → Nat} {fv : List V} {D1 D2 : Nat → Prop} (h : FI B PB F fv D1) (e : ∀ n b, B[n]? = some b → (D1 n ↔ D2 n)) : FI B PB F fv D2 :=
  ⟨fun n b hb hd => h.a n b hb ((e n b hb).mpr hd), fun k b' hb => by
    obtain ⟨n, b, h1, h2, h3⟩ := h.s k b' hb
    exact ⟨n, b, h1, (e n b h1).mp h2, h3⟩⟩
theorem mvB_congr {F G : Nat → Nat} {b : Bun} (h : ∀ e ∈ b.2, ∀ d ∈ e.2, F d = G d) : mvB F b = mvB G b := by
  unfold mvB
  congr 1
  refine List.map_congr_left fun e he => ?_
  unfold mvE
  rw [List.map_congr_left (h e he)]
theorem FI.add {B PB PB' : List Bun} {F : Nat → Nat} {fv : List V} {Dn : Nat → Prop} (h : FI B PB F fv Dn) {j n' : Nat} {b : Bun} (hb : B[j]? = some b) (hj : ¬ Dn j) (hfl : j < fv.length) (hp : ∀ n b, B[n]? = some b → (Dn n ∨ n = j) → ∀ e ∈ b.2, ∀ d ∈ e.2, d ≠ j) (h1 : PB' = PB ∨ PB' = PB ++ [mvB F b]) (h2 : PB'[n']? = some (mvB F b)) :
    FI B PB' (fun x => if x = j then n' else F x) (fv.set j (nV n')) (fun n => Dn n ∨ n = j) := by
  have hc : ∀ n b, B[n]? = some b → (Dn n ∨ n = j) → mvB (fun x => if x = j then n' else F x) b = mvB F b := fun n b hb hd => mvB_congr fun e he d hd' => if_neg (hp n b hb hd e he d hd')
  have hx : ∀ (k : Nat) (x : Bun), PB[k]? = some x → PB'[k]? = some x := fun k x hk => by
    rcases h1 with rfl | rfl
    · exact hk
    · rw [List.getElem?_append_left (List.getElem?_eq_some_iff.mp hk).1]; exact hk
  refine ⟨fun n c hn hd => ?_, fun k b' hk => ?_⟩
  · rw [hc n c hn hd]
    by_cases e : n = j
    · subst e
      rw [hb] at hn
      cases hn
      simp only [if_true]
      exact ⟨by rw [List.getElem?_set_self hfl], h2⟩
    · have hd' : Dn n := hd.resolve_right e
      obtain ⟨q1, q2⟩ := h.a n c hn hd'
      simp only [if_neg e]
      exact ⟨by rw [List.getElem?_set_ne (fun z => e z.symm)]; exact q1, hx _ _ q2⟩
  · have hold : ∀ b', PB[k]? = some b' → ∃ (n : Nat) (b : Bun), B[n]? = some b ∧ (Dn n ∨ n = j) ∧ b' = mvB (fun x => if x = j then n' else F x) b := fun b' hk => by
      obtain ⟨n, b, q1, q2, q3⟩ := h.s k b' hk
      exact ⟨n, b, q1, .inl q2, by rw [hc n b q1 (.inl q2)]; exact q3⟩
    rcases h1 with rfl | rfl
    · exact hold b' hk
    · rcases snoc_get hk with hk | ⟨rfl, rfl⟩
      · exact hold b' hk
      · exact ⟨j, b, hb, .inr rfl, (hc j b hb (.inr rfl)).symm⟩
section
variable {P : Program} {w : World} {K : PySem.W.Frag} {mg : Str → Option Value} {base : Heap}
def sp_fold_of (P : Program) (w : World) (D F : Addr) : Sp := fun vs H Q _ => ∃ (t lb lp : Addr) (ps : Prs Str) (B : List Bun) (tops : List Nat), vs = [.ref t, .ref lb, .ref lp] ∧ TreeAt P w D H t ps ∧ NmP ps ∧ GoodB ps B ∧ B.length ≤ 100 ∧ BunsL H lb B ∧ NT H lp tops ∧ PartsOk ps B none tops ∧
  ∀ (f : Addr) (B1 : List Bun) (tops1 : List Nat) H', FW P w F D H' f ps B1 tops1 → AllR B1 tops1 = AllR B tops → Same H H' → Q (.ref f) H'
theorem ok_fold_of (T : Txt K mg) : FnOk P w K mg base CX0 13 T.f_fold_of T.fd_fold_of ["tree", "bunches", "tops"] (sp_fold_of P w T.C_Tree T.C_Fold) := by
  have G_is_bunch : FnOk P w K mg base CX0 4 T.f_is_bunch T.fd_is_bunch ["tree", "thing", "bunches"] (sp_is_bunch P w T.C_Tree) := ok_is_bunch T
  have G_is_part : FnOk P w K mg base CX0 2 T.f_is_part T.fd_is_part ["thing", "columns", "many", "bunches"] sp_is_part := ok_is_part T
  have G_Tree_columns : FnOk P w K mg base CX0 1 T.f_Tree_columns T.fd_Tree_columns ["self"] (sp_Tree_columns P w T.C_Tree) := ok_Tree_columns T
  have G_Tree_children : FnOk P w K mg base CX0 3 T.f_Tree_children T.fd_Tree_children ["self", "column"] (sp_Tree_children P w T.C_Tree) := ok_Tree_children T
  have G_Pool_init : FnOk P w K mg base CX0 1 T.f_Pool_init T.fd_Pool_init ["self", "tree"] (sp_Pool_init P w T.C_Pool) := ok_Pool_init T
  have G_Pool_put : FnOk P w K mg base CX0 1 T.f_Pool_put T.fd_Pool_put ["self", "column", "entries"] (sp_Pool_put P w T.C_Pool) := ok_Pool_put T
  have G_Pool_fold : FnOk P w K mg base CX0 12 T.f_Pool_fold T.fd_Pool_fold ["self", "tops"] (sp_Pool_fold P w T.C_Pool T.C_Tree T.C_Fold) := ok_Pool_fold T
  have G_at_places : FnOk P w K mg base CX0 1 T.f_at_places T.fd_at_places ["found", "parts"] sp_at_places := ok_at_places T
  obtain ⟨dv, V_Tree_children1, B_Tree_children1⟩ := bnd_children1 T
  refine T.F_fold_of.ok sc_fold_of (fun vs H Q E h => ?_) (fun cdv A outer s H vs Q E hr h => ?_)
  · obtain ⟨_, _, _, _, _, _, rfl, _⟩ := h
    rfl
  · obtain ⟨t, lb, lp, ps, B, tops, rfl, hT, hN, g, hB100, hB, hlp, htp, q⟩ := h
    obtain ⟨bv, hlb, hP⟩ := id hB
    obtain ⟨dt, d1, d2, d3, ht, _⟩ := id hT
    have hbl : bv.length = B.length := Paired.length hP
    refine ⟨_, (pss_cons (ps_if (pt_not (pt_val (pe_callB call_isi (by rfl) T.n_isinstance (by decide +kernel) (pa_cons (pv 1) (pa_cons (pe_bltn (v := .ty "list") (by rfl) T.n_list (by decide +kernel) rfl) pa_nil))))) (pss_one ps_never) pss_nil)
    (pss_cons (ps_for PassesOwn.never (by rfl) (pi_enum (by rfl) T.n_enumerate (pa_cons (pv 1) pa_nil)) (pg_tup (by rfl) (pgs_cons (pg_name (i := 3) sc_fold_of.nd rfl (Or.inl rfl)) (pgs_cons (pg_name (i := 4) sc_fold_of.nd rfl (Or.inl rfl)) pgs_nil))) (pss_one (ps_if (pt_not (pt_val (pe_call G_is_bunch (hr.mono (by omega)) (by rfl) T.m_is_bunch T.F_is_bunch.kp T.b_is_bunch .nil pass0 (pa_cons (pv 0) (pa_cons (pv 4) (pa_cons (pv 1) pa_nil)))))) (pss_one ps_never) pss_nil)))
    (pss_cons (ps_set (i := 5) sc_fold_of.nd rfl (Or.inl rfl) (pe_meth0 (pv 0) T.cl_Tree T.mt_Tree_children G_Tree_children (hr.mono (by omega)) B_Tree_children1 V_Tree_children1 pass0))
    (pss_cons (ps_if (PW.pt (pw_and (pt_cmpR op_notN (pv 2) pe_non (nomark _)) (pw_and1 (pt_not (pt_val (pe_call G_is_part (hr.mono (by omega)) (by rfl) T.m_is_part T.F_is_part.kp T.b_is_part .nil pass0 (pa_cons (pv 2) (pa_cons (pv 5) (pa_cons (pe_callB call_len_seq (by rfl) T.n_len PySem.boot_len (pa_cons (pv 5) pa_nil)) (pa_cons (pv 1) pa_nil)))))))))) (pss_one ps_never) pss_nil)
    (pss_cons (ps_set (i := 6) sc_fold_of.nd rfl (Or.inl rfl) (pe_make T.M_Pool G_Pool_init (hr.mono (by omega)) (by rfl) T.mC_Pool T.b_Pool_init .nil pass0 (pa_cons (pv 0) pa_nil)))
    (pss_cons (ps_set (i := 7) sc_fold_of.nd rfl (Or.inr rfl) (pe_op op_rep (pe_lst (pa_cons pe_non pa_nil)) (pe_callB call_len_seq (by rfl) T.n_len PySem.boot_len (pa_cons (pv 1) pa_nil))))
    (pss_cons (ps_for PassesOwn.never (by rfl) (pi_reversed (by rfl) T.n_reversed (pa_cons (pe_meth0 (pv 0) T.cl_Tree T.mt_Tree_columns G_Tree_columns (hr.mono (by omega)) T.b_Tree_columns .nil pass0) pa_nil)) (pg_name (i := 8) sc_fold_of.nd rfl (Or.inl rfl)) (pss_one (ps_for PassesOwn.never (by rfl) (pi_enum (by rfl) T.n_enumerate (pa_cons (pv 1) pa_nil)) (pg_tup (by rfl) (pgs_cons (pg_name (i := 3) sc_fold_of.nd rfl (Or.inl rfl)) (pgs_cons (pg_tup (by rfl) (pgs_cons (pg_name (i := 9) sc_fold_of.nd rfl (Or.inl rfl)) (pgs_cons (pg_name (i := 10) sc_fold_of.nd rfl (Or.inl rfl)) pgs_nil))) pgs_nil))) (pss_one (ps_if (pt_cmpR op_eq (pv 9) (pv 8) (nomark _)) (pss_one (ps_asg (pe_meth (pv 6) T.cl_Pool T.mt_Pool_put G_Pool_put (hr.mono (by omega)) T.b_Pool_put .nil pass0 (pa_cons (pv 8) (pa_cons (pe_lc (own := [("value", 11), ("parts", 12)]) (by rfl) sc_fold_of.nd (pi_list (pv 10)) (blkOk_by (N := N_fold_of) (sc := defScope s_fold_of) (by decide +kernel)) (fun _ _ _ _ _ => (pg_tupK (K := K) (n := 2) (by rfl) (pgs_cons (pg_name (i := 11) sc_fold_of.nd rfl (Or.inl rfl)) (pgs_cons (pg_name (i := 12) sc_fold_of.nd rfl (Or.inl rfl)) pgs_nil)))) (fun _ _ _ _ _ => pts_nil) (fun _ _ _ _ _ => (pe_tup (pa_cons (pv 11) (pa_cons (pe_call G_at_places (hr.mono (by omega)) (by rfl) T.m_at_places T.F_at_places.kp T.b_at_places .nil pass0 (pa_cons (pv 7) (pa_cons (pv 12) pa_nil))) pa_nil))))) pa_nil))) (pg_sub (pv 7) (pv 3) set_list))) pss_nil)))))
    (pss_cons (ps_if (pt_cmpR op_isN (pv 2) pe_non (nomark _)) (pss_one (ps_ret (pe_meth (pv 6) T.cl_Pool T.mt_Pool_fold G_Pool_fold (hr.mono (by omega)) T.b_Pool_fold .nil pass0 (pa_cons pe_non pa_nil)))) pss_nil)
    (pss_one (ps_ret (pe_meth (pv 6) T.cl_Pool T.mt_Pool_fold G_Pool_fold (hr.mono (by omega)) T.b_Pool_fold .nil pass0 (pa_cons (pe_call G_at_places (hr.mono (by omega)) (by rfl) T.m_at_places T.F_at_places.kp T.b_at_places .nil pass0 (pa_cons (pv 7) (pa_cons (pv 2) pa_nil))) pa_nil)))))))))))), ?_⟩
    refine ⟨_, rfl, _, _, _, _, true, rfl, .ty _, .base (.lst hlb), kit_ty (by decide +kernel), true, rfl, ?_⟩
    refine ⟨_, rfl, lb, bv, rfl, SqL.of hlb, ?_⟩
    refine for_it (walk_enum (K := K) (a := lb) (xs := bv)) (fun i σ H' => ∃ (v3 v4 v5 v6 v7 v8 v9 v10 v11 v12 : Option V), σ = [some (.ref t), some (.ref lb), some (.ref lp), v3, v4, v5, v6, v7, v8, v9, v10, v11, v12] ∧ Same H H') ?_ ?_ ?_ ?_
    · exact ⟨none, none, none, none, none, none, none, none, none, none, rfl, Same.refl _⟩
    · rintro i σ H' hi ⟨v3, v4, v5, v6, v7, v8, v9, v10, v11, v12, _, s⟩
      exact SqL.of (s _ _ hlb)
    · rintro i x σ H2 H3 hi ⟨v3, v4, v5, v6, v7, v8, v9, v10, v11, v12, rfl, s2⟩ ⟨tt, y1, y2, rfl, htt, rfl, hy1, hy2⟩
      cases hy1
      obtain ⟨b, hb, hbv⟩ := Paired.ofL hP hy2
      have s3 := s2.trans (Same.new (o := .tup [nV i, y2]) htt)
      refine ⟨tt, _, rfl, SqT.of upd_same, rfl, _, _, rfl, _, _, rfl, rfl, ?_⟩
      refine ⟨_, rfl, _, rfl, _, rfl, t, lb, y2, ps, B, b, rfl, hT.mono s3, g.gp, hN, hB.mono s3, hbv.mono s3, g.col i b hb, g.up i b hb, g.parts i b hb, fun H5 s5 => ⟨true, rfl, ?_⟩⟩
      exact ⟨_, _, _, _, _, _, _, _, _, _, rfl, s3.trans s5⟩
    · rintro σ H2 ⟨v3, v4, v5, v6, v7, v8, v9, v10, v11, v12, rfl, s2⟩
      refine ⟨_, rfl, t, dt, _, rfl, s2 _ _ ht, rfl, t, ps, none, rfl, hT.mono s2, g.gp, (fun c e => by cases e), fun lc H3 hlc0 s3 hlc => ?_⟩
      have s23 := s2.trans s3
      refine ⟨_, rfl, rfl, _, rfl, ?_⟩
      refine ⟨_, rfl, _, rfl, _, rfl, lc, _, rfl, .inl (SqL.of hlc), _, rfl, lp, lc, lb, ps, B, none, tops, ?_, s23 _ _ hlp, hlc, hB.mono s23, htp, fun H4 s4 => ⟨true, rfl, ?_⟩⟩
      · show [_, _, V.int ((sVs (kidsOf ps none)).length : Nat), _] ++ [] = _
        rw [sVs_len]
        rfl
      have s24 := s23.trans s4
      refine ⟨_, rfl, fun p dp hp0 hdp0 hne => ?_⟩
      have sm := Same.make (o := .own p) (u := .ins T.C_Pool dp []) hp0 hdp0 hne
      refine ⟨p, dp, t, rfl, upd_same, fun dn lh H5 hdn0 hlh0 hdl hp5 hdn5 hlh5 o5 => ⟨rfl, ?_⟩⟩
      have s45 := Made.same hp0 hdp0 hne o5
      have s25 := s24.trans s45
      have hdnH : H dn = none := Same.fresh (s24.trans sm) hdn0
      have hlhH : H lh = none := Same.fresh (s24.trans sm) hlh0
      refine ⟨big' (by simp), fun z0 hz0 => ?_⟩
      have s6 := Same.new (o := .lst [V.non]) hz0
      refine ⟨_, rfl, lb, bv, rfl, .inl (SqL.of (s6 _ _ (s25 _ _ hlb))), z0, _, _, rfl, rfl, upd_same, by omega, by omega, ?_, fun ff hff => ?_⟩
      · exact big' (by simp; omega)
      have e0 : (List.replicate ((bv.length : Nat) : Int).toNat [V.non]).flatten = List.replicate B.length V.non := by
        rw [Int.toNat_natCast, hbl, List.flatten_replicate_singleton]
      rw [e0]
      have s57 : Same H5 (upd (upd H5 z0 (.lst [V.non])) ff (.lst (List.replicate B.length V.non))) := s6.trans (Same.new hff)
      have hffv : (upd (upd H5 z0 (.lst [V.non])) ff (.lst (List.replicate B.length V.non))) ff = some (.lst (List.replicate B.length V.non)) := upd_same
      have hff5 : H5 ff = none := Same.fresh s6 hff
      generalize (upd (upd H5 z0 (.lst [V.non])) ff (.lst (List.replicate B.length V.non))) = H7 at s57 hffv ⊢
      have s27 := s25.trans s57
      have hffH : H ff = none := Same.fresh s25 hff5
      have hp7 := s57 _ _ hp5
      have hfp : p ≠ ff := fun e => by rw [← e, hp5] at hff5; cases hff5
      have hfd : dn ≠ ff := fun e => by rw [← e, hdn5] at hff5; cases hff5
      have hfl : lh ≠ ff := fun e => by rw [← e, hlh5] at hff5; cases hff5
      have hpd : p ≠ dn := fun e => by rw [e, hdn5] at hp5; exact nko_ins hp5.symm
      have hpl : p ≠ lh := fun e => by rw [e, hlh5] at hp5; cases hp5
      have hPA7 : PoolAt P w T.C_Pool [dn, lh, ff] H7 p t dn lh [] := ⟨⟨dp, hp7⟩, ⟨[], s57 _ _ hdn5, rfl, fun n b h => by simp at h, fun x hx => by cases hx⟩, ⟨[], s57 _ _ hlh5, .nil⟩⟩
      have oH : ∀ {H' : Hp}, Off [dn, lh, ff] H7 H' → Same H H' := fun {H'} o b u e => o b u (fun m => by
        simp only [List.mem_cons, List.not_mem_nil, or_false] at m
        rcases m with m | m | m
        · rw [m, hdnH] at e; cases e
        · rw [m, hlhH] at e; cases e
        · rw [m, hffH] at e; cases e) (s27 _ _ e)
      refine ⟨_, rfl, t, dt, _, rfl, s27 _ _ ht, rfl, t, ps, rfl, hT.mono s27, fun lo H8 hlo0 s8 hlo => ⟨lo, _, rfl, SqL.of hlo, ?_⟩⟩
      have hlow : ∀ {b : Addr} {u : HO}, H7 b = some u → lo ≠ b := fun {b u} h e => by rw [← e, hlo0] at h; cases h
      have hloW : lo ∉ [dn, lh, ff] := by
        simp [hlow (s57 _ _ hdn5), hlow (s57 _ _ hlh5), hlow hffv]
      have hole := order_le g.gp
      refine for_it (walk_rev (K := K) (a := lo) (xs := sVs (order ps))) (fun i σ H' => ∃ (PB : List Bun) (F : Nat → Nat) (fv : List V) (v3 v4 v8 v9 v10 v11 v12 : Option V), σ = [some (.ref t), some (.ref lb), some (.ref lp), v3, v4, some (.ref lc), some (.ref p), some (.ref ff), v8, v9, v10, v11, v12] ∧ H' ff = some (.lst fv) ∧ fv.length = B.length ∧ PoolAt P w T.C_Pool [dn, lh, ff] H' p t dn lh PB ∧ FI B PB F fv (fun n => ∃ b, B[n]? = some b ∧ b.1 ∈ (order ps).reverse.take i) ∧ PB.length ≤ i * B.length ∧ Off [dn, lh, ff] H7 H' ∧ H' lo = some (.lst (sVs (order ps)))) ?_ ?_ ?_ ?_
      · exact ⟨[], id, _, _, _, _, _, _, _, _, rfl, s8 _ _ hffv, by simp, hPA7.same s8, ⟨fun n b hb hd => by obtain ⟨_, _, h⟩ := hd; simp at h, fun k b' h => by simp at h⟩, by simp, Same.off s8, hlo⟩
      · rintro i σ H' hi ⟨PB, F, fv, v3, v4, v8, v9, v10, v11, v12, _, _, _, _, _, _, _, h⟩
        exact SqL.of h
      · rintro i x σ H10 H9 hi ⟨PB, F, fv, v3, v4, v8, v9, v10, v11, v12, rfl, hf9, hfvl, hPA9, hFI, hPBl, o9, hlo9⟩ ⟨rfl, hx⟩
        rw [sVs_get] at hx
        obtain ⟨c, hc, rfl⟩ := Option.map_eq_some_iff.mp hx
        rw [sVs_len] at hc hi
        have hcr : (order ps).reverse[i]? = some c := by rw [List.getElem?_reverse hi]; exact hc
        have htk : (order ps).reverse.take (i + 1) = (order ps).reverse.take i ++ [c] := take_at hcr
        have hcn : c ∉ (order ps).reverse.take i := fun h => by
          have nd : (order ps).reverse.Nodup := List.pairwise_reverse.mpr (List.Pairwise.imp (fun h => Ne.symm h) (order_nodup g.gp))
          have := nd.sublist (List.take_sublist (i + 1) _)
          rw [htk] at this
          exact (List.nodup_append.mp this).2.2 c h c (by simp) rfl
        refine ⟨_, rfl, lb, bv, rfl, SqL.of ((oH o9) _ _ hlb), ?_⟩
        refine for_it (walk_enum (K := K) (a := lb) (xs := bv)) (fun j σ H' => ∃ (PB : List Bun) (F : Nat → Nat) (fv : List V) (v3 v4 v9 v10 v11 v12 : Option V), σ = [some (.ref t), some (.ref lb), some (.ref lp), v3, v4, some (.ref lc), some (.ref p), some (.ref ff), some (.str c), v9, v10, v11, v12] ∧ H' ff = some (.lst fv) ∧ fv.length = B.length ∧ PoolAt P w T.C_Pool [dn, lh, ff] H' p t dn lh PB ∧ FI B PB F fv (fun n => ∃ b, B[n]? = some b ∧ (b.1 ∈ (order ps).reverse.take i ∨ b.1 = c ∧ n < j)) ∧ PB.length ≤ i * B.length + j ∧ Off [dn, lh, ff] H7 H' ∧ H' lo = some (.lst (sVs (order ps)))) ?_ ?_ ?_ ?_
        · refine ⟨PB, F, fv, _, _, _, _, _, _, rfl, hf9, hfvl, hPA9, hFI.iff fun n b hb => ?_, hPBl, o9, hlo9⟩
          constructor
          · rintro ⟨b', h1, h2⟩
            exact ⟨b', h1, .inl h2⟩
          · rintro ⟨b', h1, h2 | ⟨_, h2⟩⟩
            · exact ⟨b', h1, h2⟩
            · omega
        · rintro j σ H' hj ⟨PB, F, fv, v3, v4, v9, v10, v11, v12, _, _, _, _, _, _, o, _⟩
          exact SqL.of ((oH o) _ _ hlb)
        · rintro j x σ H11 H12 hj ⟨PB, F, fv, v3, v4, v9, v10, v11, v12, rfl, hf11, hfvl, hPA11, hFI, hPBl, o11, hlo11⟩ ⟨tt, y1, y2, rfl, htt, rfl, hy1, hy2⟩
          cases hy1
          obtain ⟨b, hb, a, le, rfl, ha, ev, hle, hE⟩ := Paired.ofL hP hy2
          have s12 : Same H11 (upd H11 tt (.tup [nV j, .ref a])) := Same.new htt
          have htv : (upd H11 tt (.tup [nV j, .ref a])) tt = some (.tup [nV j, .ref a]) := upd_same
          have hSH := (oH o11).trans s12
          generalize (upd H11 tt (.tup [nV j, .ref a])) = H12 at s12 htv hSH ⊢
          refine ⟨tt, _, rfl, SqT.of htv, rfl, _, _, rfl, _, _, rfl, a, _, rfl, SqT.of (hSH _ _ ha), rfl, _, _, rfl, _, _, rfl, rfl, rfl, ?_⟩
          refine ⟨_, rfl, _, rfl, rfl, _, rfl, ?_⟩
          have hPA12 := hPA11.same s12
          have hf12 := s12 _ _ hf11
          have hlo12 := s12 _ _ hlo11
          have o12 := o11.trans (Same.off s12)
          have hi8 : i < 8 := by omega
          have hjB : j < B.length := by omega
          have hiB : i * B.length ≤ 7 * B.length := Nat.mul_le_mul_right _ (by omega)
          by_cases hbc : b.1 = c
          · refine iteD (by rw [hbc]) ?_
            obtain ⟨dxp, hp12⟩ := hPA12.ins
            have hle12 := hSH _ _ hle
            have hE12 : Paired (EntV H12) ev b.2 := Paired.mapP hE fun _ _ z => z.mono hSH
            have hel := Paired.length hE
            have hel2 := g.le j b hb
            have hbt : b.1 ∈ (order ps).reverse.take (i + 1) := by rw [htk, hbc]; simp
            have hpd := parts_done g hb hbt
            have hFd : ∀ e ∈ b.2, ∀ d ∈ e.2, fv[d]? = some (nV (F d)) := fun e he d hd => by
              obtain ⟨b', hb', hb2⟩ := hpd e he d hd
              exact (hFI.a d b' hb' ⟨b', hb', .inl hb2⟩).1
            have hpl8 : ∀ e ∈ b.2, e.2.length ≤ 8 := fun e he => by
              rw [(g.parts j b hb e he).1]
              exact Nat.le_trans kids_le g.gp.le
            refine ⟨_, rfl, p, dxp, _, rfl, hp12, rfl, _, rfl, _, rfl, le, rfl, ⟨ev, SqL.of hle12⟩, fun D hD => ?_⟩
            refine lc_rel (walk_list (K := K) (a := le) (xs := ev)) (R := fun k v H' => ∀ e, b.2[k]? = some e → EntV H' v (mvE F e)) (fun k v Ha Hb sab h e he => (h e he).mono sab) hD (by omega) (fun H' s => SqL.of (s _ _ hle12)) (fun k x H5 H6 acc hk s5 hacc y => ?_) fun us H13 s13 hus hul hur => ?_
            · obtain ⟨rfl, hx⟩ := y
              obtain ⟨e, he, a1, b1, rfl, h1, h2⟩ := Paired.ofL hE12 hx
              have hem := List.mem_of_getElem? he
              have hpl := hpl8 e hem
              refine ⟨Same.refl _, fun Q' F' hq => ⟨a1, _, rfl, SqT.of (s5 _ _ h1), rfl, _, _, rfl, _, _, rfl, rfl, rfl, yesI ?_⟩⟩
              refine ⟨_, rfl, _, rfl, _, rfl, ff, b1, fv, e.2, (fun d => nV (F d)), rfl, s5 _ _ hf12, s5 _ _ h2, by omega, hFd e hem, fun a3 H6 s6 ha3 => ⟨big' (by simp), fun t1 ht1 => ?_⟩⟩
              refine hq _ _ (s6.trans (Same.new ht1)) fun e' he' => ?_
              rw [he] at he'
              cases he'
              have hD6 := s6 _ _ hacc
              have hD1 : D ≠ t1 := fun z => by rw [← z, hD6] at ht1; cases ht1
              have ha4 : H6 a3 = some (.tup (nVs (e.2.map F))) := by
                rw [ha3]
                unfold nVs
                rw [List.map_map]
                rfl
              refine ⟨t1, a3, rfl, cutD upd_same hD1.symm, cutD (Same.new ht1 _ _ ha4) fun z => ?_⟩
              rw [z, hD6] at ha4
              cases ha4
            · have hEu : Paired (EntV H13) us (b.2.map (mvE F)) := by
                refine paired_of (by rw [hul, hel, List.length_map]) fun k v e h1 h2 => ?_
                rw [List.getElem?_map] at h2
                obtain ⟨e0, h3, rfl⟩ := Option.map_eq_some_iff.mp h2
                exact (hur k v h1 e0 h3).mono cut_same
              have hPA13 := hPA12.same s13
              have hf13 := s13 _ _ hf12
              obtain ⟨xs13, hdn13, _⟩ := hPA13.nums
              obtain ⟨hv13, hlh13, _⟩ := hPA13.held
              refine ⟨p, t, dn, lh, D, [dn, lh, ff], PB, c, b.2.map (mvE F), rfl, hPA13, by simp, by simp, fun z hz => ?_, ⟨us, hus, hEu⟩, ?_, by rw [List.length_map]; omega, fun e he => ?_, by omega, fun n' PB' H14 hPB' hn' hPA14 o14 => ?_⟩
              · simp only [List.mem_cons, List.not_mem_nil, or_false] at hz
                rcases hz with rfl | rfl | rfl
                · exact ⟨_, hdn13, by unfold NkO; simp⟩
                · exact ⟨_, hlh13, by simp⟩
                · exact ⟨_, hf13, by simp⟩
              · have := g.ne j b hb
                simpa using this
              · obtain ⟨e0, he0, rfl⟩ := List.mem_map.mp he
                have := hpl8 e0 he0
                show (e0.2.map F).length ≤ 100
                rw [List.length_map]
                omega
              · have hf14 : H14 ff = some (.lst fv) := o14 _ _ (by simp [hfd.symm, hfl.symm]) hf13
                have hlo14 : H14 lo = some (.lst (sVs (order ps))) := o14 _ _ (fun m => hloW (by
                  simp only [List.mem_cons, List.not_mem_nil, or_false] at m ⊢
                  rcases m with m | m
                  · exact .inl m
                  · exact .inr (.inl m))) (s13 _ _ hlo12)
                have hcb : mvB F b = (c, b.2.map (mvE F)) := by unfold mvB; rw [hbc]
                refine ⟨_, rfl, _, rfl, ff, fv, (j : Int), j, rfl, rfl, hf14, ?_, ?_⟩
                · unfold ixN
                  rw [if_pos (by omega), if_pos (by omega)]
                  simp
                have hadd := hFI.add (PB' := PB') (n' := n') hb (fun hd => by
                  obtain ⟨b', h1, h2⟩ := hd
                  rw [hb] at h1
                  cases h1
                  rcases h2 with h2 | ⟨_, h2⟩
                  · exact hcn (hbc ▸ h2)
                  · omega) (by omega) (fun n b2 hn hd e he d hd2 ed => by
                  subst ed
                  have hbt2 : b2.1 ∈ (order ps).reverse.take (i + 1) := by
                    rcases hd with ⟨b', h1, h2⟩ | rfl
                    · rw [hn] at h1
                      cases h1
                      rw [htk]
                      rcases h2 with h2 | ⟨h2, _⟩
                      · exact List.mem_append_left _ h2
                      · rw [h2]; simp
                    · rw [hb] at hn
                      cases hn
                      exact hbt
                  obtain ⟨b', hb', hb3⟩ := parts_done g hn hbt2 e he _ hd2
                  rw [hb] at hb'
                  cases hb'
                  exact hcn (hbc ▸ hb3)) (by rw [hcb]; exact hPB') (by rw [hcb]; exact hn')
                refine ⟨PB', _, fv.set j (nV n'), _, _, _, _, _, _, rfl, upd_same, by rw [List.length_set]; exact hfvl, ?_, hadd.iff fun n b2 hn => ?_, ?_, ?_, ?_⟩
                · exact hPA14.off (V' := [ff]) (Off.put (by simp)) (by simp) (by simpa using hfp) (by simpa using hfd) (by simpa using hfl)
                · constructor
                  · rintro (⟨b', h1, h2⟩ | rfl)
                    · refine ⟨b', h1, ?_⟩
                      rcases h2 with h2 | ⟨h2, h3⟩
                      · exact .inl h2
                      · exact .inr ⟨h2, by omega⟩
                    · exact ⟨b, hb, .inr ⟨hbc, by omega⟩⟩
                  · rintro ⟨b', h1, h2⟩
                    rcases h2 with h2 | ⟨h2, h3⟩
                    · exact .inl ⟨b', h1, .inl h2⟩
                    · by_cases e : n = j
                      · exact .inr e
                      · exact .inl ⟨b', h1, .inr ⟨h2, by omega⟩⟩
                · rcases hPB' with rfl | rfl
                  · omega
                  · rw [List.length_append, List.length_singleton]; omega
                · exact o12.trans ((Same.off s13).trans ((o14.mono (by
                    intro z hz
                    simp only [List.mem_cons, List.not_mem_nil, or_false] at hz ⊢
                    rcases hz with hz | hz
                    · exact .inl hz
                    · exact .inr (.inl hz))).trans (Off.put (by simp))))
                · rw [upd_ne (fun e => hloW (by rw [e]; simp))]
                  exact hlo14
          · refine iteDn (fun e => hbc (by injection e)) ?_
            refine ⟨PB, F, fv, _, _, _, _, _, _, rfl, hf12, hfvl, hPA12, hFI.iff fun n b2 hn => ?_, by omega, o12, hlo12⟩
            constructor
            · rintro ⟨b', h1, h2⟩
              refine ⟨b', h1, ?_⟩
              rcases h2 with h2 | ⟨h2, h3⟩
              · exact .inl h2
              · exact .inr ⟨h2, by omega⟩
            · rintro ⟨b', h1, h2⟩
              refine ⟨b', h1, ?_⟩
              rcases h2 with h2 | ⟨h2, h3⟩
              · exact .inl h2
              · by_cases e : n = j
                · subst e
                  rw [hb] at h1
                  cases h1
                  exact absurd h2 hbc
                · exact .inr ⟨h2, by omega⟩
        · rintro σ H11 ⟨PB, F, fv, v3, v4, v9, v10, v11, v12, rfl, hf11, hfvl, hPA11, hFI, hPBl, o11, hlo11⟩
          rw [hbl] at hFI hPBl
          refine ⟨PB, F, fv, _, _, _, _, _, _, _, rfl, hf11, hfvl, hPA11, hFI.iff fun n b hb => ?_, by rw [Nat.succ_mul]; exact hPBl, o11, hlo11⟩
          rw [htk]
          constructor
          · rintro ⟨b', h1, h2 | ⟨h2, _⟩⟩
            · exact ⟨b', h1, List.mem_append_left _ h2⟩
            · exact ⟨b', h1, by rw [h2]; simp⟩
          · rintro ⟨b', h1, h2⟩
            rcases List.mem_append.mp h2 with h2 | h2
            · exact ⟨b', h1, .inl h2⟩
            · exact ⟨b', h1, .inr ⟨List.mem_singleton.mp h2, (List.getElem?_eq_some_iff.mp h1).1⟩⟩
      · rintro σ H9 ⟨PB, F, fv, v3, v4, v8, v9, v10, v11, v12, rfl, hf9, hfvl, hPA9, hFI, hPBl, o9, hlo9⟩
        rw [sVs_len, List.take_of_length_le (by rw [List.length_reverse]; exact Nat.le_refl _)] at hFI
        rw [sVs_len] at hPBl
        have S9 := oH o9
        obtain ⟨dxp, hp9⟩ := hPA9.ins
        have htl : tops.length ≤ 8 := by
          rw [htp.1]
          exact Nat.le_trans kids_le g.gp.le
        have hall : ∀ (n : Nat) (b : Bun), B[n]? = some b → ∃ b' : Bun, B[n]? = some b' ∧ b'.1 ∈ (order ps).reverse := fun n b hb => ⟨b, hb, List.mem_reverse.mpr (g.col n b hb)⟩
        have mv : Mv B PB F (fun n => ∃ b, B[n]? = some b) := by
          have hv : ∀ (n : Nat) (b : Bun), B[n]? = some b → ∀ e ∈ b.2, ∀ d ∈ e.2, ∃ b' : Bun, B[d]? = some b' := fun n b hb e he d hd => by
            obtain ⟨_, b', _, h, _⟩ := (g.parts n b hb e he).mem hd
            exact ⟨b', h⟩
          refine ⟨fun n hn => ?_, fun n' b' h => ?_⟩
          · obtain ⟨b, hb⟩ := hn
            exact ⟨b, hb, hv n b hb, (hFI.a n b hb (hall n b hb)).2⟩
          · obtain ⟨n, b, h1, h2, h3⟩ := hFI.s n' b' h
            exact ⟨n, b, h1, h3, hv n b h1⟩
        have hgP := mv.good g
        have htv : ∀ d ∈ tops, ∃ b, B[d]? = some b := fun d hd => by
          obtain ⟨_, b', _, h, _⟩ := htp.mem hd
          exact ⟨b', h⟩
        have hPB1000 : PB.length ≤ 1000 := by
          have := Nat.mul_le_mul_right B.length hole
          omega
        refine ⟨_, rfl, rfl, _, rfl, ?_⟩
        refine ⟨_, rfl, p, dxp, _, rfl, hp9, rfl, _, rfl, _, rfl, ff, lp, fv, tops, (fun d => nV (F d)), rfl, hf9, S9 _ _ hlp, by omega, fun d hd => ?_, fun a3 H10 s10 ha3 => ?_⟩
        · obtain ⟨b, hb⟩ := htv d hd
          exact (hFI.a d b hb (hall d b hb)).1
        have ha4 : H10 a3 = some (.tup (nVs (tops.map F))) := by
          rw [ha3]
          unfold nVs
          rw [List.map_map]
          rfl
        refine ⟨p, t, dn, lh, a3, [dn, lh, ff], ps, PB, tops.map F, rfl, hPA9.same s10, hT.mono (S9.trans s10), hgP, hPB1000, ha4, mv.parts htp htv, fun f B1 pl Vd H11 mv2 hvd hl1 hFo s11 => ?_⟩
        refine q f B1 ((tops.map F).map pl) H11 ⟨hFo, mv2.good hgP, hN, mv2.parts (mv.parts htp htv) hvd, hl1⟩ ?_ (S9.trans (s10.trans s11))
        show prod (((tops.map F).map pl).map (RR B1)) = prod (tops.map (RR B))
        rw [mv2.all hvd, mv.all htv]
end
end Fb
set_option Elab.async false
set_option linter.all false
set_option maxRecDepth 100000
set_option maxHeartbeats 1000000
/-! The law's questions of one row. -/
namespace Fb
open PySem PySem.Spec PyProof.Rows L2
theorem lex_lx : ∀ a b : List Int, HT.lexLt a b = lx a b
  | [], [] => rfl
  | [], _ :: _ => rfl
  | _ :: _, [] => rfl
  | x :: a, y :: b => by
    have e0 : lx (x :: a) (y :: b) = (decide (x < y) || (decide (x = y) && lx a b)) := by rw [lx]
    rw [HT.lexLt_cons, lex_lx a b, e0]
    by_cases e : x = y
    · subst e
      simp
    · simp [e]
theorem cut_last {xs : List V} {v : V} : cutV (xs ++ [v]) none (some (-1 : Int)) = xs := by
  unfold cutV
  have e : HT.sIx (xs ++ [v]).length (xs ++ [v]).length (some (-1 : Int)) = xs.length := by
    unfold HT.sIx
    simp
    omega
  rw [e, HT.sIx_none]
  simp
section
variable {P : Program} {w : World} {K : PySem.W.Frag} {mg : Str → Option Value} {base : Heap}
def sp__law_next_right (P : Program) (w : World) (C D : Addr) : Sp := fun vs H Q _ => ∃ (f : Addr) (ps : Prs Str) (B : List Bun) (tops : List Nat) (k : Nat), vs = [.ref f, nV k, .int ((AllR B tops).length - 1)] ∧ FW P w C D H f ps B tops ∧ k < (AllR B tops).length ∧ 1 ≤ (order ps).length ∧ BackV H Q (.bl true)
theorem betw_self {L : Rows} (h : Up L) {k : Nat} {r : List Int} (hr : L[k]? = some r) {m : Nat} {r2 : List Int} (hr2 : L[m]? = some r2) : betw L r r2 = (m : Int) + 1 - k := by
  unfold betw
  rw [bl_get h hr, bl_get h hr2, if_pos (List.mem_of_getElem? hr2)]
theorem ok__law_next_right (T : Txt K mg) : FnOk P w K mg base CX0 33 T.f__law_next_right T.fd__law_next_right ["_law_fold", "_law_number_here", "_law_last"] (sp__law_next_right P w T.C_Fold T.C_Tree) := by
  have G_row_at : FnOk P w K mg base CX0 21 T.f_row_at T.fd_row_at ["fold", "number"] (sp_row_at P w T.C_Fold T.C_Tree) := ok_row_at T
  have G_place_of : FnOk P w K mg base CX0 32 T.f_place_of T.fd_place_of ["fold", "row"] (sp_place_of P w T.C_Fold T.C_Tree) := ok_place_of T
  have G_Fold_has : FnOk P w K mg base CX0 11 T.f_Fold_has T.fd_Fold_has ["self", "row"] (sp_Fold_has P w T.C_Fold T.C_Tree) := ok_Fold_has T
  have G_between : FnOk P w K mg base CX0 32 T.f_between T.fd_between ["fold", "low", "high"] (sp_between P w T.C_Fold T.C_Tree) := ok_between T
  have G_first_from : FnOk P w K mg base CX0 32 T.f_first_from T.fd_first_from ["fold", "row"] (sp_first_from P w T.C_Fold T.C_Tree) := ok_first_from T
  refine T.F__law_next_right.ok sc__law_next_right (fun vs H Q E h => ?_) (fun cdv A outer s H vs Q E hr h => ?_)
  · obtain ⟨_, _, _, _, _, rfl, _⟩ := h
    rfl
  · obtain ⟨f, ps, B, tops, k, rfl, hW, hk, hw1, q⟩ := h
    obtain ⟨dx, t, l, r1, hf, hT, hB, hr1⟩ := id hW.fd
    have hpg := prod_good hW.g hW.tp
    have hrow : (AllR B tops)[k]? = some (AllR B tops)[k] := List.getElem?_eq_getElem hk
    have hmem : (AllR B tops)[k] ∈ AllR B tops := List.getElem_mem hk
    have hbl : bl (AllR B tops) (AllR B tops)[k] = k := bl_get hpg.1 hrow
    have hlen := all_w hW.g hW.tp hmem
    obtain ⟨ini, x, hix⟩ : ∃ ini x, (AllR B tops)[k] = ini ++ [x] := by
      rcases List.eq_nil_or_concat (AllR B tops)[k] with h | ⟨a, b, h⟩
      · rw [h] at hlen; simp at hlen; omega
      · exact ⟨a, b, by rw [h]; simp⟩
    have hb1 := betw_self hpg.1 hrow hrow
    generalize hrg : (AllR B tops)[k] = row at hrow hmem hbl hlen hix hb1
    have hol := order_le hW.g.gp
    refine ⟨_, (pss_cons (ps_set (i := 3) sc__law_next_right.nd rfl (Or.inl rfl) (pe_call G_row_at (hr.mono (by omega)) (by rfl) T.m_row_at T.F_row_at.kp T.b_row_at .nil pass0 (pa_cons (pv 0) (pa_cons (pv 1) pa_nil))))
    (pss_cons (ps_if (PW.pt (pw_or (pt_cmpR op_ne (pe_call G_place_of (hr.mono (by omega)) (by rfl) T.m_place_of T.F_place_of.kp T.b_place_of .nil pass0 (pa_cons (pv 0) (pa_cons (pv 3) pa_nil))) (pv 1) (nomark _)) (pw_or (pt_not (pt_val (pe_meth (pv 0) T.cl_Fold T.mt_Fold_has G_Fold_has (hr.mono (by omega)) T.b_Fold_has .nil pass0 (pa_cons (pv 3) pa_nil)))) (pw_or1 (pt_cmpR op_ne (pe_call G_between (hr.mono (by omega)) (by rfl) T.m_between T.F_between.kp T.b_between .nil pass0 (pa_cons (pv 0) (pa_cons (pv 3) (pa_cons (pv 3) pa_nil)))) pe_int (nomark _)))))) (pss_one (ps_ret pe_bl)) pss_nil)
    (pss_cons (ps_set (i := 4) sc__law_next_right.nd rfl (Or.inl rfl) (pe_op op_catB (pe_slice sl_tupB (pv 3) po_none (po_some (pe_un un_neg pe_int))) (pe_tup (pa_cons (pe_op op_add (pe_ix ix_tup (pv 3) (pe_un un_neg pe_int) (fun _ _ => rfl)) pe_int) pa_nil))))
    (pss_cons (ps_if (pt_cmpR op_eq (pv 1) (pv 2) (nomark _)) (pss_one (ps_ret (pe_cmpR op_isN (pe_call G_first_from (hr.mono (by omega)) (by rfl) T.m_first_from T.F_first_from.kp T.b_first_from .nil pass0 (pa_cons (pv 0) (pa_cons (pv 4) pa_nil))) pe_non (nomark _)))) pss_nil)
    (pss_cons (ps_set (i := 5) sc__law_next_right.nd rfl (Or.inl rfl) (pe_call G_row_at (hr.mono (by omega)) (by rfl) T.m_row_at T.F_row_at.kp T.b_row_at .nil pass0 (pa_cons (pv 0) (pa_cons (pe_op op_add (pv 1) pe_int) pa_nil))))
    (pss_one (ps_ret (pe_and (pe_cmpR (op_ltT hr.units0) (pv 3) (pv 5) (nomark _)) (pe_and (pe_cmpR op_eq (pe_call G_between (hr.mono (by omega)) (by rfl) T.m_between T.F_between.kp T.b_between .nil pass0 (pa_cons (pv 0) (pa_cons (pv 3) (pa_cons (pv 5) pa_nil)))) pe_int (nomark _)) (pe_one (pe_cmpR (op_eqD hr.units) (pe_call G_first_from (hr.mono (by omega)) (by rfl) T.m_first_from T.F_first_from.kp T.b_first_from .nil pass0 (pa_cons (pv 0) (pa_cons (pv 4) pa_nil))) (pe_tup (pa_cons (pe_op op_add (pv 1) pe_int) (pa_cons (pv 5) pa_nil))) (nomark _)))))))))))), ?_⟩
    refine ⟨_, rfl, _, rfl, f, ps, B, tops, k, row, rfl, hW, hrow, fun tr H1 s1 htr => ?_⟩
    refine ⟨_, rfl, _, rfl, f, tr, ps, B, tops, row, rfl, hW.mono s1, htr, hmem, fun H2 s2 => ?_⟩
    have s12 := s1.trans s2
    refine ⟨_, rfl, rfl, _, rfl, ?_⟩
    have e0 : (!decide (nV (bl (AllR B tops) row) = nV k)) = false := by rw [hbl]; simp
    rw [e0]
    refine ⟨_, rfl, f, dx, _, rfl, s12 _ _ hf, rfl, _, rfl, f, tr, ps, B, tops, row, rfl, hW.mono s12, s2 _ _ htr, hmem, fun H3 s3 => ⟨true, rfl, ?_⟩⟩
    have s13 := s12.trans s3
    have htr3 := s3 _ _ (s2 _ _ htr)
    refine ⟨_, rfl, _, rfl, _, rfl, f, tr, tr, ps, B, tops, row, row, rfl, hW.mono s13, htr3, htr3, hlen, hlen, fun H4 s4 => ⟨rfl, _, rfl, ?_⟩⟩
    have s14 := s13.trans s4
    have htr4 := s4 _ _ htr3
    have e1 : (!decide (V.int (if betw (AllR B tops) row row > 0 then betw (AllR B tops) row row else 0) = V.int 1)) = false := by
      rw [hb1]
      have : ((k : Int) + 1 - k) = 1 := by omega
      rw [this]
      simp
    rw [e1]
    have hiv : iVs row = iVs ini ++ [V.int x] := by rw [hix]; simp [iVs]
    rw [hiv] at htr4
    refine ⟨_, rfl, _, rfl, _, rfl, tr, _, rfl, htr4, fun ta H5 s5 hta => ?_⟩
    rw [cut_last] at hta
    have hil : ini.length + 1 = row.length := by rw [hix]; simp
    refine ⟨_, rfl, _, rfl, tr, _, _, _, rfl, rfl, SqT.of (s5 _ _ htr4), atI_last _ _, _, _, rfl, rfl, big' (by simp), fun tb htb => ?_⟩
    have s6 := Same.new (o := .tup [V.int (x + 1)]) htb
    refine ⟨ta, tb, _, _, rfl, rfl, s6 _ _ hta, upd_same, big' (by rw [iVs_len]; simp; omega), fun tc H7 s7 htc => ?_⟩
    have s47 := s5.trans (s6.trans s7)
    have s17 := s14.trans s47
    have htc' : H7 tc = some (.tup (iVs (ini ++ [x + 1]))) := by rw [htc]; simp [iVs]
    have hal : (ini ++ [x + 1]).length = (order ps).length := by rw [List.length_append]; simp; omega
    have hwd : Wd (ini.length + 1) (AllR B tops) := fun r hr => by rw [all_w hW.g hW.tp hr]; omega
    have habl : bl (AllR B tops) (ini ++ [x + 1]) = k + 1 := bl_above hpg.1 hwd (by rw [← hix]; exact hrow)
    have hW7 := hW.mono s17
    have htr7 : H7 tr = some (.tup (iVs row)) := by rw [hiv]; exact s47 _ _ htr4
    refine ⟨_, rfl, _, rfl, rfl, _, rfl, ?_⟩
    by_cases hkl : k + 1 = (AllR B tops).length
    · refine iteD (by show V.int (k : Int) = V.int _; rw [← hkl]; congr 1; omega) ?_
      refine ⟨_, rfl, _, rfl, f, tc, ps, B, tops, _, rfl, hW7, htc', hal, fun _ H8 s8 => ⟨rfl, ?_⟩, fun row2 hr2 => ?_⟩
      · exact q H8 (s17.trans s8)
      · rw [habl, hkl, List.getElem?_eq_none (Nat.le_refl _)] at hr2
        cases hr2
    · refine iteDn (fun e => hkl (by injection e with e; omega)) ?_
      have hk1 : k + 1 < (AllR B tops).length := by omega
      have hrow2 : (AllR B tops)[k + 1]? = some (AllR B tops)[k + 1] := List.getElem?_eq_getElem hk1
      have hmem2 : (AllR B tops)[k + 1] ∈ AllR B tops := List.getElem_mem hk1
      have hlen2 := all_w hW.g hW.tp hmem2
      have hb2 := betw_self hpg.1 hrow hrow2
      have hlt := lt_get hpg.1 hrow hrow2 (Nat.lt_succ_self k)
      generalize (AllR B tops)[k + 1] = row2 at hrow2 hmem2 hlen2 hb2 hlt
      refine ⟨_, rfl, _, rfl, _, _, rfl, rfl, f, ps, B, tops, k + 1, row2, rfl, hW7, hrow2, fun t2 H8 s8 ht2 => ?_⟩
      have s18 := s17.trans s8
      have htr8 := s8 _ _ htr7
      refine ⟨_, rfl, _, rfl, tr, t2, row, row2, rfl, rfl, SqT.of htr8, SqT.of ht2, _, rfl, ?_⟩
      rw [lex_lx, hlt]
      refine ⟨_, rfl, _, rfl, _, rfl, f, tr, t2, ps, B, tops, row, row2, rfl, hW.mono s18, htr8, ht2, hlen, hlen2, fun H9 s9 => ⟨rfl, _, rfl, ?_⟩⟩
      have e3 : decide (V.int (if betw (AllR B tops) row row2 > 0 then betw (AllR B tops) row row2 else 0) = V.int 2) = true := by
        rw [hb2]
        have : (((k + 1 : Nat) : Int) + 1 - k) = 2 := by omega
        rw [this]
        rfl
      rw [e3]
      have s19 := s18.trans s9
      refine ⟨_, rfl, _, rfl, f, tc, ps, B, tops, _, rfl, hW.mono s19, s9 _ _ (s8 _ _ htc'), hal, fun h => ?_, fun row3 hr3 t3 tr3 H10 s10 ht3 htr3 => ?_⟩
      · rw [habl] at h
        omega
      rw [habl] at ht3 hr3
      rw [hrow2] at hr3
      cases hr3
      refine ⟨_, rfl, _, _, rfl, rfl, _, rfl, big' (by simp), fun t4 ht4 => ?_⟩
      have s11 := Same.new (o := .tup [V.int ((k : Int) + 1), .ref t2]) ht4
      refine ⟨.tuple [.int ((k + 1 : Nat) : Int), .tuple (dI row2)], .tuple [.int ((k : Int) + 1), .tuple (dI row2)], ?_, ?_, shp_pair _ _, shp_pair _ _, ?_⟩
      · exact .tup (SqT.of (s11 _ _ ht3)) (.cons (.int _) (.cons (dp_row (s11 _ _ htr3)) .nil))
      · exact .tup (SqT.of upd_same) (.cons (.int _) (.cons (dp_row (s11 _ _ (s10 _ _ (s9 _ _ ht2)))) .nil))
      · rw [eqv_pair]
        have e5 : (decide (((k + 1 : Nat) : Int) = (k : Int) + 1) && decide (row2 = row2)) = true := by simp
        rw [e5]
        exact q _ (s19.trans (s10.trans s11))
def sp__law_walked (P : Program) (w : World) (C D : Addr) : Sp := fun vs H Q _ => ∃ (f : Addr) (ps : Prs Str) (B : List Bun) (tops : List Nat) (k m : Nat), vs = [.ref f, nV k, nV m] ∧ FW P w C D H f ps B tops ∧ k < (AllR B tops).length ∧ m < (AllR B tops).length ∧ BackV H Q (.bl true)
theorem eqv_tup (r : List Int) : PyData.eqv (.tuple (dI r)) (.tuple (dI r)) = true := by
  simp only [PyData.eqv, eqv_row]
  simp
theorem ok__law_walked (T : Txt K mg) : FnOk P w K mg base CX0 33 T.f__law_walked T.fd__law_walked ["_law_fold", "_law_number_here", "_law_other"] (sp__law_walked P w T.C_Fold T.C_Tree) := by
  have G_row_at : FnOk P w K mg base CX0 21 T.f_row_at T.fd_row_at ["fold", "number"] (sp_row_at P w T.C_Fold T.C_Tree) := ok_row_at T
  have G_Walker_init : FnOk P w K mg base CX0 1 T.f_Walker_init T.fd_Walker_init ["self", "fold"] (sp_Walker_init T.C_Walker) := ok_Walker_init T
  have G_Walker_to : FnOk P w K mg base CX0 32 T.f_Walker_to T.fd_Walker_to ["self", "row"] (sp_Walker_to P w T.C_Fold T.C_Tree T.C_Walker) := ok_Walker_to T
  have G_Walker_where : FnOk P w K mg base CX0 1 T.f_Walker_where T.fd_Walker_where ["self"] (sp_Walker_where T.C_Walker) := ok_Walker_where T
  have G_Walker_step : FnOk P w K mg base CX0 24 T.f_Walker_step T.fd_Walker_step ["self", "many"] (sp_Walker_step P w T.C_Fold T.C_Tree T.C_Walker) := ok_Walker_step T
  have G_Walker_back : FnOk P w K mg base CX0 24 T.f_Walker_back T.fd_Walker_back ["self", "many"] (sp_Walker_back P w T.C_Fold T.C_Tree T.C_Walker) := ok_Walker_back T
  obtain ⟨dv1, V_Walker_step2, B_Walker_step2⟩ := bnd_step2 T
  obtain ⟨dv2, V_Walker_back2, B_Walker_back2⟩ := bnd_back2 T
  refine T.F__law_walked.ok sc__law_walked (fun vs H Q E h => ?_) (fun cdv A outer s H vs Q E hr h => ?_)
  · obtain ⟨_, _, _, _, _, _, rfl, _⟩ := h
    rfl
  · obtain ⟨f, ps, B, tops, k, m, rfl, hW, hk, hm, q⟩ := h
    have hpg := prod_good hW.g hW.tp
    have hrow : (AllR B tops)[k]? = some (AllR B tops)[k] := List.getElem?_eq_getElem hk
    have hlen := all_w hW.g hW.tp (List.getElem_mem hk)
    have hbl : bl (AllR B tops) (AllR B tops)[k] = k := bl_get hpg.1 hrow
    generalize hrg : (AllR B tops)[k] = row at hrow hlen hbl
    refine ⟨_, (pss_cons (ps_set (i := 3) sc__law_walked.nd rfl (Or.inl rfl) (pe_make T.M_Walker G_Walker_init (hr.mono (by omega)) (by rfl) T.mC_Walker T.b_Walker_init .nil pass0 (pa_cons (pv 0) pa_nil)))
    (pss_cons (ps_set (i := 4) sc__law_walked.nd rfl (Or.inl rfl) (pe_call G_row_at (hr.mono (by omega)) (by rfl) T.m_row_at T.F_row_at.kp T.b_row_at .nil pass0 (pa_cons (pv 0) (pa_cons (pv 1) pa_nil))))
    (pss_cons (ps_if (PW.pt (pw_or (pt_cmpR (op_neD hr.units) (pe_meth (pv 3) T.cl_Walker T.mt_Walker_to G_Walker_to (hr.mono (by omega)) T.b_Walker_to .nil pass0 (pa_cons (pv 4) pa_nil)) (pv 4) (nomark _)) (pw_or1 (pt_cmpR op_ne (pe_meth0 (pv 3) T.cl_Walker T.mt_Walker_where G_Walker_where (hr.mono (by omega)) T.b_Walker_where .nil pass0) (pv 1) (nomark _))))) (pss_one (ps_ret pe_bl)) pss_nil)
    (pss_cons (ps_if (pt_cmpR (op_neD hr.units) (pe_meth (pv 3) T.cl_Walker T.mt_Walker_step G_Walker_step (hr.mono (by omega)) B_Walker_step2 V_Walker_step2 pass0 (pa_cons (pe_callB (call_max2 (by rfl)) (by rfl) T.n_max (by decide +kernel) (pa_cons pe_int (pa_cons (pe_op op_sub (pv 2) (pv 1)) pa_nil))) pa_nil)) (pe_call G_row_at (hr.mono (by omega)) (by rfl) T.m_row_at T.F_row_at.kp T.b_row_at .nil pass0 (pa_cons (pv 0) (pa_cons (pe_callB (call_max2 (by rfl)) (by rfl) T.n_max (by decide +kernel) (pa_cons (pv 1) (pa_cons (pv 2) pa_nil))) pa_nil))) (nomark _)) (pss_one (ps_ret pe_bl)) pss_nil)
    (pss_one (ps_ret (pe_and (pe_cmpR (op_eqD hr.units) (pe_meth (pv 3) T.cl_Walker T.mt_Walker_back G_Walker_back (hr.mono (by omega)) B_Walker_back2 V_Walker_back2 pass0 (pa_cons (pe_callB (call_max2 (by rfl)) (by rfl) T.n_max (by decide +kernel) (pa_cons (pv 1) (pa_cons (pv 2) pa_nil))) pa_nil)) (pe_call G_row_at (hr.mono (by omega)) (by rfl) T.m_row_at T.F_row_at.kp T.b_row_at .nil pass0 (pa_cons (pv 0) (pa_cons pe_int pa_nil))) (nomark _)) (pe_one (pe_cmpR op_eq (pe_meth0 (pv 3) T.cl_Walker T.mt_Walker_where G_Walker_where (hr.mono (by omega)) T.b_Walker_where .nil pass0) pe_int (nomark _)))))))))), ?_⟩
    refine ⟨_, rfl, fun x dx hx0 hdx0 hne => ?_⟩
    refine ⟨x, f, dx, rfl, upd_same, fun H1 hk1 o1 => ⟨rfl, ?_⟩⟩
    have s1 := Made.same hx0 hdx0 hne o1
    refine ⟨_, rfl, _, rfl, f, ps, B, tops, k, row, rfl, hW.mono s1, hrow, fun tr H2 s2 htr => ?_⟩
    have s12 := s1.trans s2
    obtain ⟨dx1, hx1⟩ := hk1
    have hx2 := s2 _ _ hx1
    have htx : tr ≠ x := fun e => by rw [e, hx2] at htr; cases htr
    have hS : ∀ {Ha Hb : Hp}, Same H Ha → Off [x] Ha Hb → Same H Hb := fun {Ha Hb} sa o b u e => o b u (fun m => by
      rw [List.mem_singleton.mp m, hx0] at e
      cases e) (sa _ _ e)
    refine ⟨_, rfl, x, dx1, _, rfl, hx2, rfl, _, rfl, x, f, tr, ps, B, tops, 0, row, row, rfl, ⟨dx1, hx2⟩, hW.mono s12, htr, hlen, by rw [hbl]; exact hrow, fun t3 H3 ht3 hk3 o3 => ?_⟩
    have s13 := hS s12 o3
    have htr3 := o3 _ _ (by simpa using htx) htr
    obtain ⟨dx3, hx3⟩ := id hk3
    refine ⟨_, rfl, .tuple (dI row), .tuple (dI row), dp_row ht3, dp_row htr3, shp_row _, shp_row _, _, rfl, ?_⟩
    rw [eqv_tup]
    refine ⟨_, rfl, x, dx3, _, rfl, hx3, rfl, x, f, _, rfl, hk3, _, rfl, rfl, _, rfl, ?_⟩
    rw [hbl] at hk3 ⊢
    have e1 : (!decide (nV k = nV k)) = false := by simp
    rw [e1]
    have e2 : (if (m : Int) - (k : Int) > 0 then (m : Int) - (k : Int) else 0) = ((m - k : Nat) : Int) := by split <;> omega
    have hmx : k + (m - k) < (AllR B tops).length := by omega
    have hrow4 : (AllR B tops)[k + (m - k)]? = some (AllR B tops)[k + (m - k)] := List.getElem?_eq_getElem hmx
    generalize (AllR B tops)[k + (m - k)] = row4 at hrow4
    obtain ⟨dx3', hx3'⟩ := id hk3
    refine ⟨_, rfl, x, dx3', _, rfl, hx3', rfl, _, rfl, _, rfl, _, _, rfl, rfl, _, _, rfl, x, f, ps, B, tops, k, m - k, row4, ?_, hk3, hW.mono s13, hrow4, fun t4 H4 ht4 hk4 o4 => ?_⟩
    · show [_, V.int (if (m : Int) - (k : Int) > 0 then (m : Int) - (k : Int) else 0)] ++ [] = _
      rw [e2]
      rfl
    have s14 := hS s13 o4
    have e3 : (if (m : Int) > (k : Int) then (m : Int) else (k : Int)) = ((k + (m - k) : Nat) : Int) := by split <;> omega
    refine ⟨_, rfl, _, rfl, _, rfl, _, _, rfl, f, ps, B, tops, k + (m - k), row4, ?_, hW.mono s14, hrow4, fun t5 H5 s5 ht5 => ?_⟩
    · show [_, V.int (if (m : Int) > (k : Int) then (m : Int) else (k : Int))] ++ [] = _
      rw [e3]
      rfl
    refine ⟨.tuple (dI row4), .tuple (dI row4), dp_row (s5 _ _ ht4), dp_row ht5, shp_row _, shp_row _, _, rfl, ?_⟩
    rw [eqv_tup]
    have s15 := s14.trans s5
    obtain ⟨dx4, hx4⟩ := id hk4
    have hx5 := s5 _ _ hx4
    have h0 : 0 < (AllR B tops).length := by omega
    have hrow0 : (AllR B tops)[0]? = some (AllR B tops)[0] := List.getElem?_eq_getElem h0
    generalize (AllR B tops)[0] = row0 at hrow0
    refine ⟨_, rfl, x, dx4, _, rfl, hx5, rfl, _, rfl, _, rfl, _, _, rfl, x, f, ps, B, tops, k + (m - k), k + (m - k), row0, ?_, Nat.le_refl _, ⟨dx4, hx5⟩, hW.mono s15, by rw [Nat.sub_self]; exact hrow0, fun t6 H6 ht6 hk6 o6 => ?_⟩
    · show [_, V.int (if (m : Int) > (k : Int) then (m : Int) else (k : Int))] ++ [] = _
      rw [e3]
      rfl
    have s16 := hS s15 o6
    refine ⟨_, rfl, f, ps, B, tops, 0, row0, rfl, hW.mono s16, hrow0, fun t7 H7 s7 ht7 => ?_⟩
    refine ⟨.tuple (dI row0), .tuple (dI row0), dp_row (s7 _ _ ht6), dp_row ht7, shp_row _, shp_row _, _, rfl, ?_⟩
    rw [eqv_tup]
    rw [Nat.sub_self] at hk6
    obtain ⟨dx6, hx6⟩ := id hk6
    refine ⟨_, rfl, x, dx6, _, rfl, s7 _ _ hx6, rfl, x, f, 0, rfl, ⟨dx6, s7 _ _ hx6⟩, rfl, ?_⟩
    exact q H7 (s16.trans s7)
end
end Fb
set_option Elab.async false
set_option linter.all false
set_option maxRecDepth 100000
set_option maxHeartbeats 2000000
/-! The law. -/
namespace Fb
open PySem PySem.Spec PyProof.Rows L2
theorem PairsL.off {H H' : Hp} {l a : Addr} {ps : Prs Str} {n : Nat} (h : PairsL H l ps) (hl : l ≠ a) (hw : WellAt H a n) (o : Off [a] H H') : PairsL H' l ps := by
  obtain ⟨vs, h1, h2⟩ := h
  refine ⟨vs, o _ _ (by simpa using hl) h1, Paired.mapP h2 fun v x hv => ?_⟩
  obtain ⟨b, h3, h4⟩ := hv
  exact ⟨b, h3, o _ _ (by simpa using tup_ne hw h4) h4⟩
theorem cut_mem {xs : List V} {lo hi : Option Int} {x : V} (h : x ∈ cutV xs lo hi) : x ∈ xs := List.mem_of_mem_drop (List.mem_of_mem_take h)
theorem at_end {l : List Nat} (h : l ≠ []) : ∃ x, x ∈ l ∧ atI (nVs l) (-1) = some (nV x) := by
  rcases List.eq_nil_or_concat l with e | ⟨a, b, e⟩
  · exact absurd e h
  · refine ⟨b, by rw [e]; simp, ?_⟩
    have : nVs l = nVs a ++ [nV b] := by rw [e]; simp [nVs]
    rw [this]
    exact atI_last _ _
theorem sq_same {K : PySem.W.Frag} {H H' : Hp} {a : Addr} {xs : List V} (h : SqL K H a xs) (e : Same H H') : SqL K H' a xs :=
  h.elim (fun h => .inl (h.elim (fun h => .inl (e _ _ h)) fun ⟨o, h⟩ => .inr ⟨o, e _ _ h⟩)) fun h => .inr h
section
variable {P : Program} {w : World} {K : PySem.W.Frag} {mg : Str → Option Value} {base : Heap}
def sp_law (K : PySem.W.Frag) : Sp := fun vs H Q _ => ∃ (a : Addr) (ns : List Int), vs = [.ref a] ∧ SqL K H a (ns.map V.int) ∧ ns.length ≤ 1000 ∧ ∀ H', Q (.bl true) H'
theorem ok_law (T : Txt K mg) : FnOk P w K mg base CX0 35 T.f_law T.fd_law ["_law_script"] (sp_law K) := by
  have G__law_cell_at : FnOk P w K mg base CX0 1 T.f__law_cell_at T.fd__law_cell_at ["_law_script", "_law_k"] (sp_cell_at K) := ok__law_cell_at T
  have G__law_well : FnOk P w K mg base CX0 1 T.f__law_well T.fd__law_well ["_law_cell"] sp__law_well := ok__law_well T
  have G__law_draw : FnOk P w K mg base CX0 1 T.f__law_draw T.fd__law_draw ["_law_well_here", "_law_many"] sp__law_draw := ok__law_draw T
  have G__law_one : FnOk P w K mg base CX0 2 T.f__law_one T.fd__law_one ["_law_well_here", "_law_some_here"] (sp__law_one K) := ok__law_one T
  have G__law_pairs : FnOk P w K mg base CX0 4 T.f__law_pairs T.fd__law_pairs ["_law_well_here", "_law_many"] sp__law_pairs := ok__law_pairs T
  have G__law_great : FnOk P w K mg base CX0 12 T.f__law_great T.fd__law_great ["_law_well_here", "_law_pairs_here"] sp__law_great := ok__law_great T
  have G_Tree_init : FnOk P w K mg base CX0 10 T.f_Tree_init T.fd_Tree_init ["self", "pairs"] (sp_Tree_init P w T.C_Tree) := ok_Tree_init T
  have G_fold_of : FnOk P w K mg base CX0 13 T.f_fold_of T.fd_fold_of ["tree", "bunches", "tops"] (sp_fold_of P w T.C_Tree T.C_Fold) := ok_fold_of T
  have G__law_counts : FnOk P w K mg base CX0 2 T.f__law_counts T.fd__law_counts ["_law_bunches"] sp__law_counts := ok__law_counts T
  have G__law_product : FnOk P w K mg base CX0 1 T.f__law_product T.fd__law_product ["_law_numbers", "_law_parts"] sp_product_at := ok__law_product T
  have G_Fold_count : FnOk P w K mg base CX0 4 T.f_Fold_count T.fd_Fold_count ["self"] (sp_Fold_count P w T.C_Fold T.C_Tree) := ok_Fold_count T
  have G__law_next_right : FnOk P w K mg base CX0 33 T.f__law_next_right T.fd__law_next_right ["_law_fold", "_law_number_here", "_law_last"] (sp__law_next_right P w T.C_Fold T.C_Tree) := ok__law_next_right T
  have G__law_walked : FnOk P w K mg base CX0 33 T.f__law_walked T.fd__law_walked ["_law_fold", "_law_number_here", "_law_other"] (sp__law_walked P w T.C_Fold T.C_Tree) := ok__law_walked T
  have G__law_some_row : FnOk P w K mg base CX0 12 T.f__law_some_row T.fd__law_some_row ["_law_well_here", "_law_bunches", "_law_parts"] (sp__law_some_row 9) := ok__law_some_row T 9
  have G__law_number : FnOk P w K mg base CX0 11 T.f__law_number T.fd__law_number ["_law_bunches", "_law_many", "_law_parts", "_law_row"] (sp__law_number 9) := ok__law_number T 9
  have G_row_at : FnOk P w K mg base CX0 21 T.f_row_at T.fd_row_at ["fold", "number"] (sp_row_at P w T.C_Fold T.C_Tree) := ok_row_at T
  have G_place_of : FnOk P w K mg base CX0 32 T.f_place_of T.fd_place_of ["fold", "row"] (sp_place_of P w T.C_Fold T.C_Tree) := ok_place_of T
  have G_between : FnOk P w K mg base CX0 32 T.f_between T.fd_between ["fold", "low", "high"] (sp_between P w T.C_Fold T.C_Tree) := ok_between T
  refine T.F_law.ok sc_law (fun vs H Q E h => ?_) (fun cdv A outer s H vs Q E hr h => ?_)
  · obtain ⟨_, _, rfl, _⟩ := h
    rfl
  · obtain ⟨a, ns, rfl, ha, hnl, q⟩ := h
    refine ⟨_, (pss_cons (ps_set (i := 1) sc_law.nd rfl (Or.inl rfl) (pe_call G__law_well (hr.mono (by omega)) (by rfl) T.m__law_well T.F__law_well.kp T.b__law_well .nil pass0 (pa_cons (pe_call G__law_cell_at (hr.mono (by omega)) (by rfl) T.m__law_cell_at T.F__law_cell_at.kp T.b__law_cell_at .nil pass0 (pa_cons (pv 0) (pa_cons pe_int pa_nil))) pa_nil)))
    (pss_cons (ps_set (i := 2) sc_law.nd rfl (Or.inl rfl) (pe_call G__law_pairs (hr.mono (by omega)) (by rfl) T.m__law_pairs T.F__law_pairs.kp T.b__law_pairs .nil pass0 (pa_cons (pv 1) (pa_cons (pe_call G__law_one (hr.mono (by omega)) (by rfl) T.m__law_one T.F__law_one.kp T.b__law_one .nil pass0 (pa_cons (pv 1) (pa_cons (pe_lst (pa_cons pe_int (pa_cons pe_int (pa_cons pe_int (pa_cons pe_int (pa_cons pe_int (pa_cons pe_int (pa_cons pe_int pa_nil)))))))) pa_nil))) pa_nil))))
    (pss_cons (ps_asg (pe_call G__law_great (hr.mono (by omega)) (by rfl) T.m__law_great T.F__law_great.kp T.b__law_great .nil pass0 (pa_cons (pv 1) (pa_cons (pv 2) pa_nil))) (pg_tup (by rfl) (pgs_cons (pg_name (i := 3) sc_law.nd rfl (Or.inl rfl)) (pgs_cons (pg_name (i := 4) sc_law.nd rfl (Or.inl rfl)) pgs_nil))))
    (pss_cons (ps_set (i := 5) sc_law.nd rfl (Or.inl rfl) (pe_call G_fold_of (hr.mono (by omega)) (by rfl) T.m_fold_of T.F_fold_of.kp T.b_fold_of .nil pass0 (pa_cons (pe_make T.M_Tree G_Tree_init (hr.mono (by omega)) (by rfl) T.mC_Tree T.b_Tree_init .nil pass0 (pa_cons (pv 2) pa_nil)) (pa_cons (pv 3) (pa_cons (pv 4) pa_nil)))))
    (pss_cons (ps_set (i := 6) sc_law.nd rfl (Or.inl rfl) (pe_call G__law_counts (hr.mono (by omega)) (by rfl) T.m__law_counts T.F__law_counts.kp T.b__law_counts .nil pass0 (pa_cons (pv 3) pa_nil)))
    (pss_cons (ps_set (i := 7) sc_law.nd rfl (Or.inl rfl) (pe_op op_sub (pe_call G__law_product (hr.mono (by omega)) (by rfl) T.m__law_product T.F__law_product.kp T.b__law_product .nil pass0 (pa_cons (pv 6) (pa_cons (pv 4) pa_nil))) pe_int))
    (pss_cons (ps_if (PW.pt (pw_or (pt_cmpR op_ne (pe_meth0 (pv 5) T.cl_Fold T.mt_Fold_count G_Fold_count (hr.mono (by omega)) T.b_Fold_count .nil pass0) (pe_op op_add (pv 7) pe_int) (nomark _)) (pw_or (pt_not (pt_val (pe_call G__law_next_right (hr.mono (by omega)) (by rfl) T.m__law_next_right T.F__law_next_right.kp T.b__law_next_right .nil pass0 (pa_cons (pv 5) (pa_cons pe_int (pa_cons (pv 7) pa_nil)))))) (pw_or1 (pt_not (pt_val (pe_call G__law_next_right (hr.mono (by omega)) (by rfl) T.m__law_next_right T.F__law_next_right.kp T.b__law_next_right .nil pass0 (pa_cons (pv 5) (pa_cons (pv 7) (pa_cons (pv 7) pa_nil)))))))))) (pss_one (ps_ret pe_bl)) pss_nil)
    (pss_cons (ps_set (i := 8) sc_law.nd rfl (Or.inl rfl) (pe_lst (pa_cons pe_int (pa_cons (pv 7) pa_nil))))
    (pss_cons (ps_for PassesOwn.never (by rfl) (pi_list (pe_op op_cat (pe_slice sl_list (pv 0) (po_some pe_int) (po_some pe_int)) (pe_lst (pa_cons pe_int (pa_cons pe_int pa_nil))))) (pg_name (i := 9) sc_law.nd rfl (Or.inl rfl)) (pss_cons (ps_set (i := 10) sc_law.nd rfl (Or.inl rfl) (pe_call G__law_well (hr.mono (by omega)) (by rfl) T.m__law_well T.F__law_well.kp T.b__law_well .nil pass0 (pa_cons (pv 9) pa_nil)))
      (pss_cons (ps_set (i := 11) sc_law.nd rfl (Or.inl rfl) (pe_call G__law_some_row (hr.mono (by omega)) (by rfl) T.m__law_some_row T.F__law_some_row.kp T.b__law_some_row .nil pass0 (pa_cons (pv 10) (pa_cons (pv 3) (pa_cons (pv 4) pa_nil)))))
      (pss_cons (ps_set (i := 12) sc_law.nd rfl (Or.inl rfl) (pe_ix ix_tup (pe_call G__law_number (hr.mono (by omega)) (by rfl) T.m__law_number T.F__law_number.kp T.b__law_number .nil pass0 (pa_cons (pv 3) (pa_cons (pv 6) (pa_cons (pv 4) (pa_cons (pv 11) pa_nil))))) pe_int (fun _ _ => rfl)))
      (pss_cons (ps_if (PW.pt (pw_or (pt_cmpR op_ne (pe_call G_place_of (hr.mono (by omega)) (by rfl) T.m_place_of T.F_place_of.kp T.b_place_of .nil pass0 (pa_cons (pv 5) (pa_cons (pv 11) pa_nil))) (pv 12) (nomark _)) (pw_or (pt_cmpR (op_neD hr.units) (pe_call G_row_at (hr.mono (by omega)) (by rfl) T.m_row_at T.F_row_at.kp T.b_row_at .nil pass0 (pa_cons (pv 5) (pa_cons (pv 12) pa_nil))) (pv 11) (nomark _)) (pw_or1 (pt_not (pt_val (pe_call G__law_next_right (hr.mono (by omega)) (by rfl) T.m__law_next_right T.F__law_next_right.kp T.b__law_next_right .nil pass0 (pa_cons (pv 5) (pa_cons (pv 12) (pa_cons (pv 7) pa_nil)))))))))) (pss_one (ps_ret pe_bl)) pss_nil)
      (pss_cons (ps_set (i := 13) sc_law.nd rfl (Or.inl rfl) (pe_op op_mod (pe_op op_add (pe_op op_mul (pe_call G__law_draw (hr.mono (by omega)) (by rfl) T.m__law_draw T.F__law_draw.kp T.b__law_draw .nil pass0 (pa_cons (pv 10) (pa_cons (pe_op op_pow pe_int pe_int) pa_nil))) (pe_op op_add pe_int (pe_call G__law_draw (hr.mono (by omega)) (by rfl) T.m__law_draw T.F__law_draw.kp T.b__law_draw .nil pass0 (pa_cons (pv 10) (pa_cons (pe_op op_pow pe_int pe_int) pa_nil))))) pe_int) (pe_op op_add (pv 7) pe_int)))
      (pss_cons (ps_if (PW.pt (pw_or (pt_not (pt_val (pe_call G__law_next_right (hr.mono (by omega)) (by rfl) T.m__law_next_right T.F__law_next_right.kp T.b__law_next_right .nil pass0 (pa_cons (pv 5) (pa_cons (pv 13) (pa_cons (pv 7) pa_nil)))))) (pw_or1 (pt_not (pt_val (pe_call G__law_walked (hr.mono (by omega)) (by rfl) T.m__law_walked T.F__law_walked.kp T.b__law_walked .nil pass0 (pa_cons (pv 5) (pa_cons (pv 12) (pa_cons (pv 13) pa_nil))))))))) (pss_one (ps_ret pe_bl)) pss_nil)
      (pss_cons (ps_par (i := 14) (j := 15) (by rfl) sc_law.nd rfl rfl (by decide) rfl rfl (pa_cons (pe_callB (call_min2 (by rfl)) (by rfl) T.n_min (by decide +kernel) (pa_cons (pe_ix ix_list (pv 8) (pe_un un_neg pe_int) (fun _ _ => rfl)) (pa_cons (pv 12) pa_nil))) (pa_cons (pe_callB (call_max2 (by rfl)) (by rfl) T.n_max (by decide +kernel) (pa_cons (pe_ix ix_list (pv 8) (pe_un un_neg pe_int) (fun _ _ => rfl)) (pa_cons (pv 12) pa_nil))) pa_nil)) (by rfl))
      (pss_cons (ps_if (pt_cmpR op_ne (pe_call G_between (hr.mono (by omega)) (by rfl) T.m_between T.F_between.kp T.b_between .nil pass0 (pa_cons (pv 5) (pa_cons (pe_call G_row_at (hr.mono (by omega)) (by rfl) T.m_row_at T.F_row_at.kp T.b_row_at .nil pass0 (pa_cons (pv 5) (pa_cons (pv 14) pa_nil))) (pa_cons (pe_call G_row_at (hr.mono (by omega)) (by rfl) T.m_row_at T.F_row_at.kp T.b_row_at .nil pass0 (pa_cons (pv 5) (pa_cons (pv 15) pa_nil))) pa_nil)))) (pe_op op_add (pe_op op_sub (pv 15) (pv 14)) pe_int) (nomark _)) (pss_one (ps_ret pe_bl)) pss_nil)
      (pss_one (ps_expr (pe_bm PySem.F.plainAttrs_list PySem.F.slot_list_append PySem.F.type_list_append mt_append (pv 8) (pa_cons (pv 12) pa_nil)))))))))))))
    (pss_one (ps_ret (pe_cmpR op_eq (pe_call G_between (hr.mono (by omega)) (by rfl) T.m_between T.F_between.kp T.b_between .nil pass0 (pa_cons (pv 5) (pa_cons (pe_call G_row_at (hr.mono (by omega)) (by rfl) T.m_row_at T.F_row_at.kp T.b_row_at .nil pass0 (pa_cons (pv 5) (pa_cons (pv 7) pa_nil))) (pa_cons (pe_call G_row_at (hr.mono (by omega)) (by rfl) T.m_row_at T.F_row_at.kp T.b_row_at .nil pass0 (pa_cons (pv 5) (pa_cons pe_int pa_nil))) pa_nil)))) (pe_callTy call_int1 (by rfl) T.n_int (by decide +kernel) (pa_cons (pe_cmpR op_eq (pv 7) pe_int (nomark _)) pa_nil)) (nomark _))))))))))))), ?_⟩
    refine ⟨_, rfl, a, ns, 0, rfl, ha, fun c0 => ⟨c0, rfl, fun w1 H1 hw0 s1 hw1 => ?_⟩⟩
    refine ⟨_, rfl, _, rfl, big' (by simp), fun l0 hl0 => ⟨w1, l0, 0, _, rfl, well_ne hw1 hl0, upd_same, by simp, by simp, hw1.same (Same.new hl0), by decide, fun x H2 hx hw2 o2 => ?_⟩⟩
    obtain ⟨m, rfl, hm1, hm8⟩ : ∃ m : Nat, x = nV m ∧ 1 ≤ m ∧ m ≤ 8 := by
      simp only [List.mem_cons, List.not_mem_nil, or_false] at hx
      rcases hx with rfl | rfl | rfl | rfl | rfl | rfl | rfl
      · exact ⟨4, rfl, by decide, by decide⟩
      · exact ⟨6, rfl, by decide, by decide⟩
      · exact ⟨8, rfl, by decide, by decide⟩
      · exact ⟨3, rfl, by decide, by decide⟩
      · exact ⟨5, rfl, by decide, by decide⟩
      · exact ⟨2, rfl, by decide, by decide⟩
      · exact ⟨1, rfl, by decide, by decide⟩
    refine ⟨w1, _, m, rfl, hm8, hw2, by decide, fun lp ps H3 hP3 hlw hpl gp hN hw3 o3 => ?_⟩
    refine ⟨_, rfl, _, rfl, w1, lp, _, ps, rfl, hw3, by decide, hP3, hlw, gp, (fun e => by rw [e] at hpl; simp at hpl; omega), fun r lb tt B tops H4 hr4 hlbw hB4 htt hGI htp hBl hw4 o4 => ?_⟩
    refine ⟨r, _, rfl, SqT.of hr4, rfl, _, _, rfl, _, _, rfl, rfl, ?_⟩
    have hS4 : Same H H4 := by
      have o14 : Off [w1] H1 H4 := (Same.off (Same.new hl0)).trans (o2.trans (o3.trans o4))
      intro b o e
      have hb : b ≠ w1 := fun z => by rw [z, hw0] at e; cases e
      exact o14 b o (by simpa using hb) (s1 _ _ e)
    have gB : GoodB ps B := hGI.good gp fun _ h => h
    have hP4 := hP3.off hlw hw3 o4
    have hB4' : BunsL H4 lb B := hB4.mono cut_same
    refine ⟨_, rfl, fun x dx hx0 hdx0 hne => ?_⟩
    have sm := Same.make (o := .own x) (u := .ins T.C_Tree dx []) hx0 hdx0 hne
    refine ⟨x, lp, dx, ps, rfl, upd_same, hP4.mono sm, gp, hN, fun H5 hT5 o5 => ⟨rfl, ?_⟩⟩
    have s45 := Made.same hx0 hdx0 hne o5
    refine ⟨_, rfl, _, rfl, x, lb, tt, ps, B, tops, rfl, hT5, hN, gB, by omega, hB4'.mono s45, s45 _ _ htt, htp, fun f B1 tops1 H6 hFW hAll s6 => ?_⟩
    have s46 := s45.trans s6
    refine ⟨_, rfl, lb, ps, B, rfl, hB4'.mono s46, hGI, gp, by omega, fun lm H7 hlm0 s7 hlm => ?_⟩
    have s47 := s46.trans s7
    refine ⟨_, rfl, _, rfl, lm, tt, _, tops, rfl, hlm, s47 _ _ htt, parts_lt gB htp, ?_⟩
    have hpN : prodN (fun p => (cnts B).getD p 0) tops = (AllR B1 tops1).length := by
      rw [parts_prod htp, hAll]
      exact (prod_len B tops).symm
    rw [hpN]
    have hW7 := hFW.mono s7
    have hpos : 1 ≤ (AllR B1 tops1).length := by
      rw [hAll, prod_len]
      exact (prodN_le gB (fun c e => by cases e) htp).1
    have hw1' : 1 ≤ (order ps).length := by
      have h1 := tops_pos gp (fun e => by rw [e] at hpl; simp at hpl; omega)
      cases hk : kidsOf ps none with
      | nil => exact absurd hk h1
      | cons t ts => exact List.length_pos_of_mem (top_order gp (t := t) (by rw [hk]; exact List.mem_cons_self))
    refine ⟨_, _, rfl, rfl, ?_⟩
    obtain ⟨df, t6, l6, r6, hf6, _⟩ := id hW7.fd
    refine ⟨_, rfl, f, df, _, rfl, hf6, rfl, f, ps, B1, tops1, rfl, hW7, fun H8 s8 => ?_⟩
    refine ⟨_, rfl, _, _, rfl, rfl, rfl, _, rfl, ?_⟩
    have e0 : (!decide (nV (AllR B1 tops1).length = V.int (((AllR B1 tops1).length : Int) - 1 + 1))) = false := by
      have : (((AllR B1 tops1).length : Int) - 1 + 1) = ((AllR B1 tops1).length : Int) := by omega
      rw [this]
      simp
    rw [e0]
    refine ⟨_, rfl, _, rfl, f, ps, B1, tops1, 0, rfl, hW7.mono s8, by omega, hw1', fun H9 s9 => ⟨true, rfl, ?_⟩⟩
    have s79 := s8.trans s9
    have eN : (((AllR B1 tops1).length : Int) - 1) = (((AllR B1 tops1).length - 1 : Nat) : Int) := by omega
    refine ⟨_, rfl, _, rfl, _, rfl, f, ps, B1, tops1, (AllR B1 tops1).length - 1, ?_, hW7.mono s79, by omega, hw1', fun H10 s10 => ⟨true, rfl, ?_⟩⟩
    · show [_, V.int (((AllR B1 tops1).length : Int) - 1), V.int (((AllR B1 tops1).length : Int) - 1)] ++ [] = [_, V.int _, V.int _]
      rw [← eN]
      rfl
    have s710 := s79.trans s10
    have hSH10 : Same H H10 := hS4.trans (s47.trans s710)
    have hW10 := hW7.mono s710
    have hB10 := hB4'.mono (s47.trans s710)
    have hlm10 := s710 _ _ hlm
    have htt10 := s710 _ _ (s47 _ _ htt)
    refine ⟨_, rfl, big' (by simp), fun ln hln => ?_⟩
    have s11 := Same.new (o := .lst [V.int 0, V.int (((AllR B1 tops1).length : Int) - 1)]) hln
    refine ⟨_, rfl, _, rfl, _, rfl, a, ns.map V.int, rfl, sq_same ha (hSH10.trans s11), fun l1 hl1 => ?_⟩
    have s12 := Same.new (o := .lst (cutV (ns.map V.int) (some (1 : Int)) (some (9 : Int)))) hl1
    refine ⟨big' (by simp), fun l2 hl2 => ?_⟩
    have s13 := Same.new (o := .lst [V.int 0, V.int 1]) hl2
    have hcl := cutV_length (ns.map V.int) (some (1 : Int)) (some (9 : Int))
    refine ⟨l1, l2, _, _, rfl, rfl, s13 _ _ upd_same, upd_same, big' (by rw [List.length_map] at hcl; simp; omega), fun l3 hl3 => ?_⟩
    have s14 := Same.new (o := .lst (cutV (ns.map V.int) (some (1 : Int)) (some (9 : Int)) ++ [V.int 0, V.int 1])) hl3
    have s1114 := s12.trans (s13.trans s14)
    have hln14 := s1114 _ _ (upd_same (H := H10) (a := ln) (o := .lst [V.int 0, V.int (((AllR B1 tops1).length : Int) - 1)]))
    have S14 := s11.trans s1114
    have hl3ln : l3 ≠ ln := fun e => by
      have h1 := (s12.trans s13) _ _ (upd_same (H := H10) (a := ln) (o := .lst [V.int 0, V.int (((AllR B1 tops1).length : Int) - 1)]))
      have h2 := hl3
      rw [e] at h2
      exact nomatch h1.symm.trans h2
    have hcells : ∀ x ∈ cutV (ns.map V.int) (some (1 : Int)) (some (9 : Int)) ++ [V.int 0, V.int 1], ∃ c : Int, x = .int c := fun x hx => by
      rcases List.mem_append.mp hx with hx | hx
      · obtain ⟨c, _, rfl⟩ := List.mem_map.mp (cut_mem hx)
        exact ⟨c, rfl⟩
      · simp only [List.mem_cons, List.not_mem_nil, or_false] at hx
        rcases hx with rfl | rfl
        · exact ⟨0, rfl⟩
        · exact ⟨1, rfl⟩
    have hcl2 : (cutV (ns.map V.int) (some (1 : Int)) (some (9 : Int)) ++ [V.int 0, V.int 1]).length ≤ 1002 := by
      rw [List.length_map] at hcl
      simp; omega
    obtain ⟨cells, hcd⟩ : ∃ cells, cells = cutV (ns.map V.int) (some (1 : Int)) (some (9 : Int)) ++ [V.int 0, V.int 1] := ⟨_, rfl⟩
    rw [← hcd] at hcells hcl2
    refine ⟨l3, rfl, ⟨_, SqL.of upd_same⟩, ?_⟩
    refine for_it (walk_list (K := K) (a := l3) (xs := cells)) (fun i σ H' => ∃ (nums : List Nat) (v9 v10 v11 v12 v13 v14 v15 : Option V), σ = [some (.ref a), some (.ref w1), some (.ref lp), some (.ref lb), some (.ref tt), some (.ref f), some (.ref lm), some (.int (((AllR B1 tops1).length : Int) - 1)), some (.ref ln), v9, v10, v11, v12, v13, v14, v15] ∧
      H' ln = some (.lst (nVs nums)) ∧ nums ≠ [] ∧ nums.length = 2 + i ∧ (∀ x ∈ nums, x < (AllR B1 tops1).length) ∧ Same H10 H' ∧ H' l3 = some (.lst cells)) ?_ ?_ ?_ ?_
    · refine ⟨[0, (AllR B1 tops1).length - 1], none, none, none, none, none, none, none, rfl, ?_, by simp, rfl, fun x hx => ?_, S14, by rw [hcd]; exact upd_same⟩
      · refine hln14.trans ?_
        rw [eN]
        rfl
      · simp only [List.mem_cons, List.not_mem_nil, or_false] at hx
        rcases hx with rfl | rfl <;> omega
    · rintro i σ H' hi ⟨nums, v9, v10, v11, v12, v13, v14, v15, _, _, _, _, _, _, o⟩
      exact SqL.of o
    · rintro i x σ H16 H15 hi ⟨nums, v9, v10, v11, v12, v13, v14, v15, rfl, hn15, hnn, hnl15, hnb, s15, o15⟩ ⟨rfl, hx⟩
      obtain ⟨c, rfl⟩ := hcells x (List.mem_of_getElem? hx)
      have hl315 := o15
      refine ⟨_, rfl, c, rfl, fun wt H17 hwt0 s17 hwt => ?_⟩
      have hc17 : Same H10 (cut [wt] H17) := fun b o e => cut_some.mpr ⟨(fun m => by
        rw [List.mem_singleton.mp m] at e
        have := s15 _ _ e
        rw [hwt0] at this
        cases this), s17 _ _ (s15 _ _ e)⟩
      have hS : ∀ {Ha Hb : Hp}, Same H15 Ha → Off [wt] Ha Hb → Same H15 Hb := fun {Ha Hb} sa o b u e => o b u (fun m => by
        rw [List.mem_singleton.mp m, hwt0] at e
        cases e) (sa _ _ e)
      have hwid : wids ps none ≤ 8 := wids_le gp (fun c e => by cases e)
      refine ⟨_, rfl, _, rfl, _, rfl, wt, lb, tt, ps, B, none, tops, 0, rfl, hwt, by omega, hB10.mono hc17, gB, (fun c e => by cases e), Nat.le_refl 9, htp, s17 _ _ (s15 _ _ htt10), fun tr r H18 hrm htr hwt18 o18 => ?_⟩
      have s18 := hS s17 o18
      have S18 := s15.trans s18
      refine ⟨_, rfl, _, rfl, _, rfl, _, rfl, lb, lm, tt, tr, ps, B, none, tops, r, [], rfl, hB10.mono S18, gB, (fun c e => by cases e), Nat.le_refl 9, htp, S18 _ _ hlm10, S18 _ _ htt10, by rw [List.append_nil]; exact htr, hrm, fun t1 lr1 H19 s19 ht1 hlr1 => ⟨t1, _, _, _, rfl, rfl, SqT.of ht1, rfl, ?_⟩⟩
      have hrm1 : r ∈ AllR B1 tops1 := by rw [hAll]; exact hrm
      have hW15 := hW10.mono s15
      have hpg := prod_good hW15.g hW15.tp
      have hkk : bl (AllR B1 tops1) r = bl (prod (tops.map (RR B))) r := by rw [hAll]
      have hkr := get_bl hpg.1 hrm1
      rw [hkk] at hkr
      generalize bl (prod (tops.map (RR B))) r = k at hkk hkr ⊢
      have hkl : k < (AllR B1 tops1).length := (List.getElem?_eq_some_iff.mp hkr).1
      have s1519 := s18.trans s19
      have htr19 := s19 _ _ htr
      refine ⟨_, rfl, _, rfl, f, tr, ps, B1, tops1, r, rfl, hW15.mono s1519, htr19, hrm1, fun H20 s20 => ?_⟩
      rw [hkk]
      refine ⟨_, rfl, rfl, _, rfl, ?_⟩
      have ek : (!decide (nV k = nV k)) = false := by simp
      rw [ek]
      have s1520 := s1519.trans s20
      refine ⟨_, rfl, _, rfl, f, ps, B1, tops1, k, r, rfl, hW15.mono s1520, hkr, fun t2 H21 s21 ht2 => ⟨_, rfl, .tuple (dI r), .tuple (dI r), dp_row ht2, dp_row (s21 _ _ (s20 _ _ htr19)), shp_row _, shp_row _, _, rfl, ?_⟩⟩
      rw [eqv_tup]
      have s1521 := s1520.trans s21
      refine ⟨_, rfl, _, rfl, _, rfl, f, ps, B1, tops1, k, rfl, hW15.mono s1521, hkl, hw1', fun H22 s22 => ⟨true, rfl, ?_⟩⟩
      have s1522 := s1521.trans s22
      have hwt22 : WellAt H22 wt (0 + wids ps none) := hwt18.same (s19.trans (s20.trans (s21.trans s22)))
      refine ⟨_, rfl, _, _, rfl, rfl, ⟨by decide, by decide, by decide⟩, wt, _, _, rfl, by decide, by decide, hwt22, by omega, fun q1 H23 q10 q11 hwt23 o23 => ?_⟩
      have s1523 := hS s1522 o23
      refine ⟨_, rfl, _, _, rfl, rfl, ⟨by decide, by decide, by decide⟩, wt, _, _, rfl, by decide, by decide, hwt23, by omega, fun q2 H24 q20 q21 hwt24 o24 => ?_⟩
      have s1524 := hS s1523 o24
      have e9 : (10 : Int) ^ (9 : Int).toNat = 1000000000 := by decide
      rw [e9] at q11 q21
      refine ⟨_, _, rfl, rfl, _, _, rfl, rfl, .inl ⟨by omega, by omega⟩, _, _, rfl, rfl, _, rfl, _, _, rfl, rfl, _, _, rfl, rfl, by omega, ?_⟩
      obtain ⟨m2, hm2, hm2l⟩ : ∃ m2 : Nat, (q1 * (1 + q2) + 1) % (((AllR B1 tops1).length : Int) - 1 + 1) = (m2 : Int) ∧ m2 < (AllR B1 tops1).length := by
        have a1 := Int.emod_nonneg (q1 * (1 + q2) + 1) (show (((AllR B1 tops1).length : Int) - 1 + 1) ≠ 0 by omega)
        have a2 := Int.emod_lt_of_pos (q1 * (1 + q2) + 1) (show 0 < (((AllR B1 tops1).length : Int) - 1 + 1) by omega)
        exact ⟨((q1 * (1 + q2) + 1) % (((AllR B1 tops1).length : Int) - 1 + 1)).toNat, by omega, by omega⟩
      refine ⟨_, rfl, _, rfl, _, rfl, f, ps, B1, tops1, m2, ?_, hW15.mono s1524, hm2l, hw1', fun H25 s25 => ⟨true, rfl, ?_⟩⟩
      · show [_, V.int ((q1 * (1 + q2) + 1) % (((AllR B1 tops1).length : Int) - 1 + 1)), _] ++ [] = _
        rw [hm2]
        rfl
      have s1525 := s1524.trans s25
      refine ⟨_, rfl, _, rfl, _, rfl, f, ps, B1, tops1, k, m2, ?_, hW15.mono s1525, hkl, hm2l, fun H26 s26 => ⟨true, rfl, ?_⟩⟩
      · show [_, _, V.int ((q1 * (1 + q2) + 1) % (((AllR B1 tops1).length : Int) - 1 + 1))] ++ [] = _
        rw [hm2]
        rfl
      have s1526 := s1525.trans s26
      have hn26 := s1526 _ _ hn15
      have hl326 := s1526 _ _ hl315
      obtain ⟨x0, hx0m, hx0a⟩ := at_end hnn
      have hx0l := hnb x0 hx0m
      refine ⟨_, rfl, _, rfl, ln, _, _, _, rfl, rfl, SqL.of hn26, hx0a, _, rfl, _, _, rfl, _, rfl, _, rfl, ln, _, _, _, rfl, rfl, SqL.of hn26, hx0a, _, rfl, _, _, rfl, _, _, rfl, ?_⟩
      have elo : (if (k : Int) < (x0 : Int) then (k : Int) else (x0 : Int)) = ((min x0 k : Nat) : Int) := by split <;> omega
      have ehi : (if (k : Int) > (x0 : Int) then (k : Int) else (x0 : Int)) = ((max x0 k : Nat) : Int) := by split <;> omega
      have hlol : min x0 k < (AllR B1 tops1).length := by omega
      have hhil : max x0 k < (AllR B1 tops1).length := by omega
      have hlohi : min x0 k ≤ max x0 k := by omega
      generalize min x0 k = lo at elo hlol hlohi
      generalize max x0 k = hi at ehi hhil hlohi
      have hrlo : (AllR B1 tops1)[lo]? = some (AllR B1 tops1)[lo] := List.getElem?_eq_getElem hlol
      have hrhi : (AllR B1 tops1)[hi]? = some (AllR B1 tops1)[hi] := List.getElem?_eq_getElem hhil
      have hbt := betw_self hpg.1 hrlo hrhi
      have hllo := all_w hW15.g hW15.tp (List.mem_of_getElem? hrlo)
      have hlhi := all_w hW15.g hW15.tp (List.mem_of_getElem? hrhi)
      refine ⟨_, rfl, _, rfl, _, rfl, f, ps, B1, tops1, lo, _, ?_, hW15.mono s1526, hrlo, fun ta H27 s27 hta => ?_⟩
      · show [_, V.int (if (k : Int) < (x0 : Int) then (k : Int) else (x0 : Int))] ++ [] = _
        rw [elo]
        rfl
      have s1527 := s1526.trans s27
      refine ⟨_, rfl, _, rfl, f, ps, B1, tops1, hi, _, ?_, hW15.mono s1527, hrhi, fun tb H28 s28 htb => ?_⟩
      · show [_, V.int (if (k : Int) > (x0 : Int) then (k : Int) else (x0 : Int))] ++ [] = _
        rw [ehi]
        rfl
      have s1528 := s1527.trans s28
      refine ⟨f, ta, tb, ps, B1, tops1, _, _, rfl, hW15.mono s1528, s28 _ _ hta, htb, hllo, hlhi, fun H29 s29 => ?_⟩
      have s1529 := s1528.trans s29
      have hn29 := s1529 _ _ hn15
      refine ⟨_, rfl, _, rfl, _, _, rfl, rfl, _, _, rfl, rfl, rfl, _, rfl, ?_⟩
      have ebt : (!decide (V.int (if betw (AllR B1 tops1) (AllR B1 tops1)[lo] (AllR B1 tops1)[hi] > 0 then betw (AllR B1 tops1) (AllR B1 tops1)[lo] (AllR B1 tops1)[hi] else 0) = V.int ((if (k : Int) > (x0 : Int) then (k : Int) else (x0 : Int)) - (if (k : Int) < (x0 : Int) then (k : Int) else (x0 : Int)) + 1))) = false := by
        rw [hbt, elo, ehi, if_pos (by omega)]
        have : ((hi : Int) + 1 - (lo : Int)) = (hi : Int) - (lo : Int) + 1 := by omega
        rw [this]
        simp
      rw [ebt]
      refine ⟨_, rfl, tyL hn29, _, rfl, ln, _, _, rfl, rfl, hn29, big (by rw [nVs_len]; omega), nums ++ [k], _, _, _, _, _, _, _, rfl, ?_, by simp, by rw [List.length_append]; simp; omega, fun y hy => ?_, ?_, ?_⟩
      · rw [upd_same]
        simp [nVs]
      · rcases List.mem_append.mp hy with hy | hy
        · exact hnb y hy
        · rw [List.mem_singleton.mp hy]; exact hkl
      · intro b u e
        rw [upd_ne (fun z => by rw [z, hln] at e; cases e)]
        exact s1529 _ _ (s15 _ _ e)
      · rw [upd_ne hl3ln]
        exact s1529 _ _ hl315
    · rintro σ H15 ⟨nums, v9, v10, v11, v12, v13, v14, v15, rfl, hn15, hnn, hnl15, hnb, s15, o15⟩
      have hW15 := hW10.mono s15
      have hpg := prod_good hW15.g hW15.tp
      have hrL : (AllR B1 tops1)[(AllR B1 tops1).length - 1]? = some (AllR B1 tops1)[(AllR B1 tops1).length - 1] := List.getElem?_eq_getElem (by omega)
      have hr0 : (AllR B1 tops1)[0]? = some (AllR B1 tops1)[0] := List.getElem?_eq_getElem (by omega)
      have hb0 := betw_self hpg.1 hrL hr0
      have hlL := all_w hW15.g hW15.tp (List.mem_of_getElem? hrL)
      have hl0 := all_w hW15.g hW15.tp (List.mem_of_getElem? hr0)
      refine ⟨_, rfl, _, rfl, _, rfl, f, ps, B1, tops1, (AllR B1 tops1).length - 1, _, ?_, hW15, hrL, fun ta H16 s16 hta => ?_⟩
      · show [_, V.int (((AllR B1 tops1).length : Int) - 1)] ++ [] = [_, V.int _]
        rw [eN]
        rfl
      refine ⟨_, rfl, f, ps, B1, tops1, 0, _, rfl, hW15.mono s16, hr0, fun tb H17 s17 htb => ?_⟩
      refine ⟨f, ta, tb, ps, B1, tops1, _, _, rfl, hW15.mono (s16.trans s17), s17 _ _ hta, htb, hlL, hl0, fun H18 s18 => ?_⟩
      refine ⟨_, rfl, rfl, .inr ⟨_, rfl, rfl, ?_⟩⟩
      rw [hb0]
      by_cases h1 : (AllR B1 tops1).length = 1
      · have e1 : (((0 : Nat) : Int) + 1 - (((AllR B1 tops1).length - 1 : Nat) : Int)) = 1 := by omega
        have e2 : (((AllR B1 tops1).length : Int) - 1) = 0 := by omega
        rw [e1]
        show Q (.bl (decide (V.int _ = V.int (if decide (V.int (((AllR B1 tops1).length : Int) - 1) = V.int 0) = true then 1 else 0)))) _
        rw [e2]
        exact q _
      · have e1 : ¬ (((0 : Nat) : Int) + 1 - (((AllR B1 tops1).length - 1 : Nat) : Int)) > 0 := by omega
        rw [if_neg e1]
        have e2 : decide (V.int (((AllR B1 tops1).length : Int) - 1) = V.int 0) = false := decide_eq_false fun e => by injection e with e; omega
        show Q (.bl (decide (V.int _ = V.int (if decide (V.int (((AllR B1 tops1).length : Int) - 1) = V.int 0) = true then 1 else 0)))) _
        rw [e2]
        exact q _
end
end Fb
set_option Elab.async false
set_option linter.all false
set_option maxRecDepth 100000
set_option maxHeartbeats 4000000
/-! What the top has written (printed by genmk.py). -/
namespace Fb
open PySem PySem.Spec PyProof.Rows L2
abbrev FnK (K : PySem.W.Frag) (x qual : Str) (st : Stmt) (f : Addr) : Prop := ∃ (oc : Value) (od : Option Addr) (osl : Array (Option Value)) (kV doc pm : Value) (an : Option Addr) (cdv ct : Value),
  K.lookup f = some ⟨oc, od, .func (PySem.W.fnOf x qual (defArgs st) (defBody st) (defScope st) .none kV doc pm an cdv ct), osl⟩ ∧ PySem.W.codeIn K cdv qual = true ∧ PySem.W.keepIn K (.ref f) = true
abbrev FnD (K : PySem.W.Frag) (x qual : Str) (st : Stmt) (v : V) (f : Addr) : Prop := ∃ (oc : Value) (od : Option Addr) (osl : Array (Option Value)) (T : Addr) (kV doc pm : Value) (an : Option Addr) (cdv ct : Value) (oc2 : Value) (od2 : Option Addr) (u : Value) (n : Nat) (osl2 : Array (Option Value)),
  K.lookup f = some ⟨oc, od, .func (PySem.W.fnOf x qual (defArgs st) (defBody st) (defScope st) (.ref T) kV doc pm an cdv ct), osl⟩ ∧ PySem.W.codeIn K cdv qual = true ∧ PySem.W.keepIn K (.ref f) = true ∧ K.lookup T = some ⟨oc2, od2, .seq #[u] n, osl2⟩ ∧ RelV v u
theorem FnK.mk {K : PySem.W.Frag} {x qual : Str} {st : Stmt} {f : Addr} (h : FnK K x qual st f) : ∃ fd, Fun K x qual st f fd := by
  obtain ⟨oc, od, osl, kV, doc, pm, an, cdv, ct, l, c, k⟩ := h
  exact ⟨_, fun_mk (st := st) l c k⟩
theorem FnD.mk {K : PySem.W.Frag} {x qual : Str} {st : Stmt} {v : V} {f : Addr} (h : FnD K x qual st v f) : ∃ fd, FunD K x qual (defArgs st) (defBody st) (defScope st) [v] [] f fd := by
  obtain ⟨oc, od, osl, T, kV, doc, pm, an, cdv, ct, oc2, od2, u, n, osl2, l, c, k, t, r⟩ := h
  exact ⟨_, ⟨oc, od, .ref T, kV, doc, pm, an, cdv, ct, osl, rfl, l, c, .inr ⟨by simp, T, _, [u], n, rfl, t, rfl, .cons r .nil⟩, .inl rfl⟩, k⟩
abbrev FnM (K : PySem.W.Frag) (x : Str) (R : Addr → Prop) : Prop := ∃ f : Addr, PySem.W.nsIn K mainGlobals x = some (some (.ref f)) ∧ R f
abbrev MtK (K : PySem.W.Frag) (C : Addr) (x : Str) (R : Addr → Prop) : Prop := ∃ f : Addr, PySem.W.findIn K (.ref C) x = some (some (.ref f)) ∧ PySem.W.isFn K (.ref f) = true ∧ R f
abbrev GlK (K : PySem.W.Frag) (x : Str) (v : V) : Prop := ∃ u : Value, PySem.W.nsIn K mainGlobals x = some (some u) ∧ RelV v u
theorem fnm {K : PySem.W.Frag} {x : Str} {R : Addr → Prop} {f : Addr} (a : PySem.W.nsIn K mainGlobals x = some (some (.ref f))) (r : R f) : FnM K x R := ⟨f, a, r⟩
theorem mtk {K : PySem.W.Frag} {C : Addr} {x : Str} {R : Addr → Prop} {f : Addr} (a : PySem.W.findIn K (.ref C) x = some (some (.ref f))) (i : PySem.W.isFn K (.ref f) = true) (r : R f) : MtK K C x R := ⟨f, a, i, r⟩
theorem glk {K : PySem.W.Frag} {x : Str} {v : V} {u : Value} (a : PySem.W.nsIn K mainGlobals x = some (some u)) (r : RelV v u) : GlK K x v := ⟨u, a, r⟩
theorem fnk {K : PySem.W.Frag} {x qual : Str} {st : Stmt} {f : Addr} {oc : Value} {od : Option Addr} {osl : Array (Option Value)} {kV doc pm : Value} {an : Option Addr} {cdv ct : Value}
    (l : K.lookup f = some ⟨oc, od, .func (PySem.W.fnOf x qual (defArgs st) (defBody st) (defScope st) .none kV doc pm an cdv ct), osl⟩) (c : PySem.W.codeIn K cdv qual = true) (k : PySem.W.keepIn K (.ref f) = true) : FnK K x qual st f := ⟨oc, od, osl, kV, doc, pm, an, cdv, ct, l, c, k⟩
theorem fndk {K : PySem.W.Frag} {x qual : Str} {st : Stmt} {v : V} {f : Addr} {oc : Value} {od : Option Addr} {osl : Array (Option Value)} {T : Addr} {kV doc pm : Value} {an : Option Addr} {cdv ct : Value} {oc2 : Value} {od2 : Option Addr} {u : Value} {n : Nat} {osl2 : Array (Option Value)}
    (l : K.lookup f = some ⟨oc, od, .func (PySem.W.fnOf x qual (defArgs st) (defBody st) (defScope st) (.ref T) kV doc pm an cdv ct), osl⟩) (c : PySem.W.codeIn K cdv qual = true) (k : PySem.W.keepIn K (.ref f) = true) (t : K.lookup T = some ⟨oc2, od2, .seq #[u] n, osl2⟩) (r : RelV v u) : FnD K x qual st v f := ⟨oc, od, osl, T, kV, doc, pm, an, cdv, ct, oc2, od2, u, n, osl2, l, c, k, t, r⟩
abbrev ClFold (K : PySem.W.Frag) : Prop := ∃ C : Addr, PySem.W.nsIn K mainGlobals "Fold" = some (some (.ref C)) ∧ PySem.W.plainGet K C Str.empty = true ∧ PySem.W.hasDictIn K C = true ∧ PySem.W.plainOver K C = true ∧ PySem.W.findIn K (.ref C) "__setattr__" = some (some (.builtin "object.__setattr__")) ∧ PySem.W.makesIn K C = true ∧ PySem.W.keepIn K (.ref C) = true ∧ (MtK K C "__init__" (FnK K "__init__" "Fold.__init__" s_Fold_init)) ∧ (MtK K C "tree" (FnK K "tree" "Fold.tree" s_Fold_tree)) ∧ (MtK K C "tops" (FnK K "tops" "Fold.tops" s_Fold_tops)) ∧ (MtK K C "count" (FnK K "count" "Fold.count" s_Fold_count)) ∧ (MtK K C "has" (FnK K "has" "Fold.has" s_Fold_has)) ∧ PySem.W.findIn K (.ref C) "shape" = some none ∧ PySem.W.findIn K (.ref C) "held" = some none ∧ PySem.W.findIn K (.ref C) "roots" = some none
theorem clFold {K : PySem.W.Frag} {C : Addr} (q0 : PySem.W.nsIn K mainGlobals "Fold" = some (some (.ref C))) (q1 : PySem.W.plainGet K C Str.empty = true) (q2 : PySem.W.hasDictIn K C = true) (q3 : PySem.W.plainOver K C = true) (q4 : PySem.W.findIn K (.ref C) "__setattr__" = some (some (.builtin "object.__setattr__"))) (q5 : PySem.W.makesIn K C = true) (q6 : PySem.W.keepIn K (.ref C) = true) (q7 : (MtK K C "__init__" (FnK K "__init__" "Fold.__init__" s_Fold_init))) (q8 : (MtK K C "tree" (FnK K "tree" "Fold.tree" s_Fold_tree))) (q9 : (MtK K C "tops" (FnK K "tops" "Fold.tops" s_Fold_tops))) (q10 : (MtK K C "count" (FnK K "count" "Fold.count" s_Fold_count))) (q11 : (MtK K C "has" (FnK K "has" "Fold.has" s_Fold_has))) (q12 : PySem.W.findIn K (.ref C) "shape" = some none) (q13 : PySem.W.findIn K (.ref C) "held" = some none) (q14 : PySem.W.findIn K (.ref C) "roots" = some none) : ClFold K := ⟨C, q0, q1, q2, q3, q4, q5, q6, q7, q8, q9, q10, q11, q12, q13, q14⟩
abbrev ClPool (K : PySem.W.Frag) : Prop := ∃ C : Addr, PySem.W.nsIn K mainGlobals "Pool" = some (some (.ref C)) ∧ PySem.W.plainGet K C Str.empty = true ∧ PySem.W.hasDictIn K C = true ∧ PySem.W.plainOver K C = true ∧ PySem.W.findIn K (.ref C) "__setattr__" = some (some (.builtin "object.__setattr__")) ∧ PySem.W.makesIn K C = true ∧ PySem.W.keepIn K (.ref C) = true ∧ (MtK K C "__init__" (FnK K "__init__" "Pool.__init__" s_Pool_init)) ∧ (MtK K C "put" (FnK K "put" "Pool.put" s_Pool_put)) ∧ (MtK K C "fold" (FnK K "fold" "Pool.fold" s_Pool_fold)) ∧ PySem.W.findIn K (.ref C) "shape" = some none ∧ PySem.W.findIn K (.ref C) "numbers" = some none ∧ PySem.W.findIn K (.ref C) "held" = some none
theorem clPool {K : PySem.W.Frag} {C : Addr} (q0 : PySem.W.nsIn K mainGlobals "Pool" = some (some (.ref C))) (q1 : PySem.W.plainGet K C Str.empty = true) (q2 : PySem.W.hasDictIn K C = true) (q3 : PySem.W.plainOver K C = true) (q4 : PySem.W.findIn K (.ref C) "__setattr__" = some (some (.builtin "object.__setattr__"))) (q5 : PySem.W.makesIn K C = true) (q6 : PySem.W.keepIn K (.ref C) = true) (q7 : (MtK K C "__init__" (FnK K "__init__" "Pool.__init__" s_Pool_init))) (q8 : (MtK K C "put" (FnK K "put" "Pool.put" s_Pool_put))) (q9 : (MtK K C "fold" (FnK K "fold" "Pool.fold" s_Pool_fold))) (q10 : PySem.W.findIn K (.ref C) "shape" = some none) (q11 : PySem.W.findIn K (.ref C) "numbers" = some none) (q12 : PySem.W.findIn K (.ref C) "held" = some none) : ClPool K := ⟨C, q0, q1, q2, q3, q4, q5, q6, q7, q8, q9, q10, q11, q12⟩
abbrev ClFinder (K : PySem.W.Frag) : Prop := ∃ C : Addr, PySem.W.nsIn K mainGlobals "Finder" = some (some (.ref C)) ∧ PySem.W.plainGet K C Str.empty = true ∧ PySem.W.hasDictIn K C = true ∧ PySem.W.plainOver K C = true ∧ PySem.W.findIn K (.ref C) "__setattr__" = some (some (.builtin "object.__setattr__")) ∧ PySem.W.makesIn K C = true ∧ PySem.W.keepIn K (.ref C) = true ∧ (MtK K C "__init__" (FnK K "__init__" "Finder.__init__" s_Finder_init)) ∧ (MtK K C "below_parts" (FnK K "below_parts" "Finder.below_parts" s_Finder_below_parts)) ∧ (MtK K C "below_bunch" (FnK K "below_bunch" "Finder.below_bunch" s_Finder_below_bunch)) ∧ (MtK K C "below" (FnK K "below" "Finder.below" s_Finder_below)) ∧ PySem.W.findIn K (.ref C) "looked_at" = some none ∧ PySem.W.findIn K (.ref C) "many" = some none
theorem clFinder {K : PySem.W.Frag} {C : Addr} (q0 : PySem.W.nsIn K mainGlobals "Finder" = some (some (.ref C))) (q1 : PySem.W.plainGet K C Str.empty = true) (q2 : PySem.W.hasDictIn K C = true) (q3 : PySem.W.plainOver K C = true) (q4 : PySem.W.findIn K (.ref C) "__setattr__" = some (some (.builtin "object.__setattr__"))) (q5 : PySem.W.makesIn K C = true) (q6 : PySem.W.keepIn K (.ref C) = true) (q7 : (MtK K C "__init__" (FnK K "__init__" "Finder.__init__" s_Finder_init))) (q8 : (MtK K C "below_parts" (FnK K "below_parts" "Finder.below_parts" s_Finder_below_parts))) (q9 : (MtK K C "below_bunch" (FnK K "below_bunch" "Finder.below_bunch" s_Finder_below_bunch))) (q10 : (MtK K C "below" (FnK K "below" "Finder.below" s_Finder_below))) (q11 : PySem.W.findIn K (.ref C) "looked_at" = some none) (q12 : PySem.W.findIn K (.ref C) "many" = some none) : ClFinder K := ⟨C, q0, q1, q2, q3, q4, q5, q6, q7, q8, q9, q10, q11, q12⟩
abbrev ClTree (K : PySem.W.Frag) : Prop := ∃ C : Addr, PySem.W.nsIn K mainGlobals "Tree" = some (some (.ref C)) ∧ PySem.W.plainGet K C Str.empty = true ∧ PySem.W.hasDictIn K C = true ∧ PySem.W.plainOver K C = true ∧ PySem.W.findIn K (.ref C) "__setattr__" = some (some (.builtin "object.__setattr__")) ∧ PySem.W.makesIn K C = true ∧ PySem.W.keepIn K (.ref C) = true ∧ (MtK K C "__init__" (FnK K "__init__" "Tree.__init__" s_Tree_init)) ∧ (MtK K C "__len__" (FnK K "__len__" "Tree.__len__" s_Tree_len)) ∧ (MtK K C "want" (FnK K "want" "Tree.want" s_Tree_want)) ∧ (MtK K C "columns" (FnK K "columns" "Tree.columns" s_Tree_columns)) ∧ (MtK K C "beneath" (FnK K "beneath" "Tree.beneath" s_Tree_beneath)) ∧ (MtK K C "children" (FnD K "children" "Tree.children" s_Tree_children (.non))) ∧ PySem.W.findIn K (.ref C) "overs" = some none ∧ PySem.W.findIn K (.ref C) "kids" = some none ∧ PySem.W.findIn K (.ref C) "order" = some none
theorem clTree {K : PySem.W.Frag} {C : Addr} (q0 : PySem.W.nsIn K mainGlobals "Tree" = some (some (.ref C))) (q1 : PySem.W.plainGet K C Str.empty = true) (q2 : PySem.W.hasDictIn K C = true) (q3 : PySem.W.plainOver K C = true) (q4 : PySem.W.findIn K (.ref C) "__setattr__" = some (some (.builtin "object.__setattr__"))) (q5 : PySem.W.makesIn K C = true) (q6 : PySem.W.keepIn K (.ref C) = true) (q7 : (MtK K C "__init__" (FnK K "__init__" "Tree.__init__" s_Tree_init))) (q8 : (MtK K C "__len__" (FnK K "__len__" "Tree.__len__" s_Tree_len))) (q9 : (MtK K C "want" (FnK K "want" "Tree.want" s_Tree_want))) (q10 : (MtK K C "columns" (FnK K "columns" "Tree.columns" s_Tree_columns))) (q11 : (MtK K C "beneath" (FnK K "beneath" "Tree.beneath" s_Tree_beneath))) (q12 : (MtK K C "children" (FnD K "children" "Tree.children" s_Tree_children (.non)))) (q13 : PySem.W.findIn K (.ref C) "overs" = some none) (q14 : PySem.W.findIn K (.ref C) "kids" = some none) (q15 : PySem.W.findIn K (.ref C) "order" = some none) : ClTree K := ⟨C, q0, q1, q2, q3, q4, q5, q6, q7, q8, q9, q10, q11, q12, q13, q14, q15⟩
abbrev ClWalker (K : PySem.W.Frag) : Prop := ∃ C : Addr, PySem.W.nsIn K mainGlobals "Walker" = some (some (.ref C)) ∧ PySem.W.plainGet K C Str.empty = true ∧ PySem.W.hasDictIn K C = true ∧ PySem.W.plainOver K C = true ∧ PySem.W.findIn K (.ref C) "__setattr__" = some (some (.builtin "object.__setattr__")) ∧ PySem.W.makesIn K C = true ∧ PySem.W.keepIn K (.ref C) = true ∧ (MtK K C "__init__" (FnK K "__init__" "Walker.__init__" s_Walker_init)) ∧ (MtK K C "row" (FnK K "row" "Walker.row" s_Walker_row)) ∧ (MtK K C "where" (FnK K "where" "Walker.where" s_Walker_where)) ∧ (MtK K C "stand_at" (FnK K "stand_at" "Walker.stand_at" s_Walker_stand_at)) ∧ (MtK K C "step" (FnD K "step" "Walker.step" s_Walker_step (.int 1))) ∧ (MtK K C "back" (FnD K "back" "Walker.back" s_Walker_back (.int 1))) ∧ (MtK K C "to" (FnK K "to" "Walker.to" s_Walker_to)) ∧ PySem.W.findIn K (.ref C) "walked" = some none ∧ PySem.W.findIn K (.ref C) "standing" = some none
theorem clWalker {K : PySem.W.Frag} {C : Addr} (q0 : PySem.W.nsIn K mainGlobals "Walker" = some (some (.ref C))) (q1 : PySem.W.plainGet K C Str.empty = true) (q2 : PySem.W.hasDictIn K C = true) (q3 : PySem.W.plainOver K C = true) (q4 : PySem.W.findIn K (.ref C) "__setattr__" = some (some (.builtin "object.__setattr__"))) (q5 : PySem.W.makesIn K C = true) (q6 : PySem.W.keepIn K (.ref C) = true) (q7 : (MtK K C "__init__" (FnK K "__init__" "Walker.__init__" s_Walker_init))) (q8 : (MtK K C "row" (FnK K "row" "Walker.row" s_Walker_row))) (q9 : (MtK K C "where" (FnK K "where" "Walker.where" s_Walker_where))) (q10 : (MtK K C "stand_at" (FnK K "stand_at" "Walker.stand_at" s_Walker_stand_at))) (q11 : (MtK K C "step" (FnD K "step" "Walker.step" s_Walker_step (.int 1)))) (q12 : (MtK K C "back" (FnD K "back" "Walker.back" s_Walker_back (.int 1)))) (q13 : (MtK K C "to" (FnK K "to" "Walker.to" s_Walker_to))) (q14 : PySem.W.findIn K (.ref C) "walked" = some none) (q15 : PySem.W.findIn K (.ref C) "standing" = some none) : ClWalker K := ⟨C, q0, q1, q2, q3, q4, q5, q6, q7, q8, q9, q10, q11, q12, q13, q14, q15⟩
theorem all_mk {l : PySem.W.OpenLaw} {w : World} {K : PySem.W.Frag} {h : Heap} {mg : Str → Option Value} {fa : Addr} (X : K.In h) (G : h.Ns mainGlobals mg) (hfa : mg "law" = some (.ref fa))
    (h_is_name : FnM K "is_name" (FnK K "is_name" "is_name" s_is_name))
    (h_is_value : FnM K "is_value" (FnK K "is_value" "is_value" s_is_value))
    (h_is_row : FnM K "is_row" (FnK K "is_row" "is_row" s_is_row))
    (h_want_row : FnM K "want_row" (FnD K "want_row" "want_row" s_want_row (.int 0)))
    (h_product_at : FnM K "product_at" (FnK K "product_at" "product_at" s_product_at))
    (h_by_columns : FnM K "by_columns" (FnK K "by_columns" "by_columns" s_by_columns))
    (h_counts_of : FnM K "counts_of" (FnK K "counts_of" "counts_of" s_counts_of))
    (h_parts_at : FnM K "parts_at" (FnK K "parts_at" "parts_at" s_parts_at))
    (h_holds : FnM K "holds" (FnK K "holds" "holds" s_holds))
    (h_visit : FnM K "visit" (FnK K "visit" "visit" s_visit))
    (h_moved : FnM K "moved" (FnK K "moved" "moved" s_moved))
    (h_parts_row : FnM K "parts_row" (FnK K "parts_row" "parts_row" s_parts_row))
    (h_bunch_row : FnM K "bunch_row" (FnK K "bunch_row" "bunch_row" s_bunch_row))
    (h_row_at : FnM K "row_at" (FnK K "row_at" "row_at" s_row_at))
    (h_place_of : FnM K "place_of" (FnK K "place_of" "place_of" s_place_of))
    (h_first_from : FnM K "first_from" (FnK K "first_from" "first_from" s_first_from))
    (h_between : FnM K "between" (FnK K "between" "between" s_between))
    (h_is_part : FnM K "is_part" (FnK K "is_part" "is_part" s_is_part))
    (h_is_bunch : FnM K "is_bunch" (FnK K "is_bunch" "is_bunch" s_is_bunch))
    (h_fold_of : FnM K "fold_of" (FnK K "fold_of" "fold_of" s_fold_of))
    (h_at_places : FnM K "at_places" (FnK K "at_places" "at_places" s_at_places))
    (h_is_pair : FnM K "is_pair" (FnK K "is_pair" "is_pair" s_is_pair))
    (h_order_from : FnM K "order_from" (FnK K "order_from" "order_from" s_order_from))
    (h__law_cell_at : FnM K "_law_cell_at" (FnK K "_law_cell_at" "_law_cell_at" s__law_cell_at))
    (h__law_well : FnM K "_law_well" (FnK K "_law_well" "_law_well" s__law_well))
    (h__law_draw : FnM K "_law_draw" (FnK K "_law_draw" "_law_draw" s__law_draw))
    (h__law_one : FnM K "_law_one" (FnK K "_law_one" "_law_one" s__law_one))
    (h__law_names : FnM K "_law_names" (FnK K "_law_names" "_law_names" s__law_names))
    (h__law_pairs : FnM K "_law_pairs" (FnK K "_law_pairs" "_law_pairs" s__law_pairs))
    (h__law_beneath : FnM K "_law_beneath" (FnK K "_law_beneath" "_law_beneath" s__law_beneath))
    (h__law_some : FnM K "_law_some" (FnK K "_law_some" "_law_some" s__law_some))
    (h__law_great : FnM K "_law_great" (FnK K "_law_great" "_law_great" s__law_great))
    (h__law_counts : FnM K "_law_counts" (FnK K "_law_counts" "_law_counts" s__law_counts))
    (h__law_product : FnM K "_law_product" (FnK K "_law_product" "_law_product" s__law_product))
    (h__law_number : FnM K "_law_number" (FnK K "_law_number" "_law_number" s__law_number))
    (h__law_some_row : FnM K "_law_some_row" (FnK K "_law_some_row" "_law_some_row" s__law_some_row))
    (h__law_next_right : FnM K "_law_next_right" (FnK K "_law_next_right" "_law_next_right" s__law_next_right))
    (h__law_walked : FnM K "_law_walked" (FnK K "_law_walked" "_law_walked" s__law_walked))
    (h_law : FnM K "law" (FnK K "law" "law" s_law))
    (h_Fold : ClFold K)
    (h_Pool : ClPool K)
    (h_Finder : ClFinder K)
    (h_Tree : ClTree K)
    (h_Walker : ClWalker K)
    (z_len : PySem.W.nsIn K mainGlobals "len" = some none)
    (z_int : PySem.W.nsIn K mainGlobals "int" = some none)
    (z_max : PySem.W.nsIn K mainGlobals "max" = some none)
    (z_min : PySem.W.nsIn K mainGlobals "min" = some none)
    (z_sum : PySem.W.nsIn K mainGlobals "sum" = some none)
    (z_all : PySem.W.nsIn K mainGlobals "all" = some none)
    (z_sorted : PySem.W.nsIn K mainGlobals "sorted" = some none)
    (z_isinstance : PySem.W.nsIn K mainGlobals "isinstance" = some none)
    (z_tuple : PySem.W.nsIn K mainGlobals "tuple" = some none)
    (z_list : PySem.W.nsIn K mainGlobals "list" = some none)
    (z_dict : PySem.W.nsIn K mainGlobals "dict" = some none)
    (z_range : PySem.W.nsIn K mainGlobals "range" = some none)
    (z_enumerate : PySem.W.nsIn K mainGlobals "enumerate" = some none)
    (z_zip : PySem.W.nsIn K mainGlobals "zip" = some none)
    (z_reversed : PySem.W.nsIn K mainGlobals "reversed" = some none)
    (z_str : PySem.W.nsIn K mainGlobals "str" = some none)
    (z_bool : PySem.W.nsIn K mainGlobals "bool" = some none)
    (g_LETTERS : GlK K "LETTERS" (.str "abcdefghijklmnopqrstuvwxyz"))
    (g_LONGEST_NAME : GlK K "LONGEST_NAME" (.int 8))
    (g_MOST_COLUMNS : GlK K "MOST_COLUMNS" (.int 8))
    : ∃ fd : FuncData, (∀ (s : Shared) (v : Value), BindsTo s fd ⟨[v], []⟩ [("_law_script", v)]) ∧ ∀ base : Heap, K.In base → base.Ns mainGlobals mg → FnOk l.prog w K mg base CX0 35 fa fd ["_law_script"] (sp_law K) := by
  obtain ⟨f_is_name, a_is_name, k_is_name⟩ := h_is_name
  obtain ⟨fd_is_name, F_is_name⟩ := k_is_name.mk
  obtain ⟨f_is_value, a_is_value, k_is_value⟩ := h_is_value
  obtain ⟨fd_is_value, F_is_value⟩ := k_is_value.mk
  obtain ⟨f_is_row, a_is_row, k_is_row⟩ := h_is_row
  obtain ⟨fd_is_row, F_is_row⟩ := k_is_row.mk
  obtain ⟨f_want_row, a_want_row, k_want_row⟩ := h_want_row
  obtain ⟨fd_want_row, F_want_row⟩ := k_want_row.mk
  obtain ⟨f_product_at, a_product_at, k_product_at⟩ := h_product_at
  obtain ⟨fd_product_at, F_product_at⟩ := k_product_at.mk
  obtain ⟨f_by_columns, a_by_columns, k_by_columns⟩ := h_by_columns
  obtain ⟨fd_by_columns, F_by_columns⟩ := k_by_columns.mk
  obtain ⟨f_counts_of, a_counts_of, k_counts_of⟩ := h_counts_of
  obtain ⟨fd_counts_of, F_counts_of⟩ := k_counts_of.mk
  obtain ⟨f_parts_at, a_parts_at, k_parts_at⟩ := h_parts_at
  obtain ⟨fd_parts_at, F_parts_at⟩ := k_parts_at.mk
  obtain ⟨f_holds, a_holds, k_holds⟩ := h_holds
  obtain ⟨fd_holds, F_holds⟩ := k_holds.mk
  obtain ⟨f_visit, a_visit, k_visit⟩ := h_visit
  obtain ⟨fd_visit, F_visit⟩ := k_visit.mk
  obtain ⟨f_moved, a_moved, k_moved⟩ := h_moved
  obtain ⟨fd_moved, F_moved⟩ := k_moved.mk
  obtain ⟨f_parts_row, a_parts_row, k_parts_row⟩ := h_parts_row
  obtain ⟨fd_parts_row, F_parts_row⟩ := k_parts_row.mk
  obtain ⟨f_bunch_row, a_bunch_row, k_bunch_row⟩ := h_bunch_row
  obtain ⟨fd_bunch_row, F_bunch_row⟩ := k_bunch_row.mk
  obtain ⟨f_row_at, a_row_at, k_row_at⟩ := h_row_at
  obtain ⟨fd_row_at, F_row_at⟩ := k_row_at.mk
  obtain ⟨f_place_of, a_place_of, k_place_of⟩ := h_place_of
  obtain ⟨fd_place_of, F_place_of⟩ := k_place_of.mk
  obtain ⟨f_first_from, a_first_from, k_first_from⟩ := h_first_from
  obtain ⟨fd_first_from, F_first_from⟩ := k_first_from.mk
  obtain ⟨f_between, a_between, k_between⟩ := h_between
  obtain ⟨fd_between, F_between⟩ := k_between.mk
  obtain ⟨f_is_part, a_is_part, k_is_part⟩ := h_is_part
  obtain ⟨fd_is_part, F_is_part⟩ := k_is_part.mk
  obtain ⟨f_is_bunch, a_is_bunch, k_is_bunch⟩ := h_is_bunch
  obtain ⟨fd_is_bunch, F_is_bunch⟩ := k_is_bunch.mk
  obtain ⟨f_fold_of, a_fold_of, k_fold_of⟩ := h_fold_of
  obtain ⟨fd_fold_of, F_fold_of⟩ := k_fold_of.mk
  obtain ⟨f_at_places, a_at_places, k_at_places⟩ := h_at_places
  obtain ⟨fd_at_places, F_at_places⟩ := k_at_places.mk
  obtain ⟨f_is_pair, a_is_pair, k_is_pair⟩ := h_is_pair
  obtain ⟨fd_is_pair, F_is_pair⟩ := k_is_pair.mk
  obtain ⟨f_order_from, a_order_from, k_order_from⟩ := h_order_from
  obtain ⟨fd_order_from, F_order_from⟩ := k_order_from.mk
  obtain ⟨f__law_cell_at, a__law_cell_at, k__law_cell_at⟩ := h__law_cell_at
  obtain ⟨fd__law_cell_at, F__law_cell_at⟩ := k__law_cell_at.mk
  obtain ⟨f__law_well, a__law_well, k__law_well⟩ := h__law_well
  obtain ⟨fd__law_well, F__law_well⟩ := k__law_well.mk
  obtain ⟨f__law_draw, a__law_draw, k__law_draw⟩ := h__law_draw
  obtain ⟨fd__law_draw, F__law_draw⟩ := k__law_draw.mk
  obtain ⟨f__law_one, a__law_one, k__law_one⟩ := h__law_one
  obtain ⟨fd__law_one, F__law_one⟩ := k__law_one.mk
  obtain ⟨f__law_names, a__law_names, k__law_names⟩ := h__law_names
  obtain ⟨fd__law_names, F__law_names⟩ := k__law_names.mk
  obtain ⟨f__law_pairs, a__law_pairs, k__law_pairs⟩ := h__law_pairs
  obtain ⟨fd__law_pairs, F__law_pairs⟩ := k__law_pairs.mk
  obtain ⟨f__law_beneath, a__law_beneath, k__law_beneath⟩ := h__law_beneath
  obtain ⟨fd__law_beneath, F__law_beneath⟩ := k__law_beneath.mk
  obtain ⟨f__law_some, a__law_some, k__law_some⟩ := h__law_some
  obtain ⟨fd__law_some, F__law_some⟩ := k__law_some.mk
  obtain ⟨f__law_great, a__law_great, k__law_great⟩ := h__law_great
  obtain ⟨fd__law_great, F__law_great⟩ := k__law_great.mk
  obtain ⟨f__law_counts, a__law_counts, k__law_counts⟩ := h__law_counts
  obtain ⟨fd__law_counts, F__law_counts⟩ := k__law_counts.mk
  obtain ⟨f__law_product, a__law_product, k__law_product⟩ := h__law_product
  obtain ⟨fd__law_product, F__law_product⟩ := k__law_product.mk
  obtain ⟨f__law_number, a__law_number, k__law_number⟩ := h__law_number
  obtain ⟨fd__law_number, F__law_number⟩ := k__law_number.mk
  obtain ⟨f__law_some_row, a__law_some_row, k__law_some_row⟩ := h__law_some_row
  obtain ⟨fd__law_some_row, F__law_some_row⟩ := k__law_some_row.mk
  obtain ⟨f__law_next_right, a__law_next_right, k__law_next_right⟩ := h__law_next_right
  obtain ⟨fd__law_next_right, F__law_next_right⟩ := k__law_next_right.mk
  obtain ⟨f__law_walked, a__law_walked, k__law_walked⟩ := h__law_walked
  obtain ⟨fd__law_walked, F__law_walked⟩ := k__law_walked.mk
  obtain ⟨f_law, a_law, k_law⟩ := h_law
  obtain ⟨oc, od, osl, kV, doc, pm, an, cdv, ct, l1, c1, k1⟩ := k_law
  have F_law := fun_mk (st := s_law) l1 c1 k1
  obtain ⟨C_Fold, nc_Fold, pg_Fold, hd_Fold, po_Fold, sa_Fold, mk_Fold, kc_Fold, ⟨f_Fold_init, a_Fold_init, i_Fold_init, k_Fold_init⟩, ⟨f_Fold_tree, a_Fold_tree, i_Fold_tree, k_Fold_tree⟩, ⟨f_Fold_tops, a_Fold_tops, i_Fold_tops, k_Fold_tops⟩, ⟨f_Fold_count, a_Fold_count, i_Fold_count, k_Fold_count⟩, ⟨f_Fold_has, a_Fold_has, i_Fold_has, k_Fold_has⟩, na_Fold_shape, na_Fold_held, na_Fold_roots⟩ := h_Fold
  have kk_Fold_init := k_Fold_init
  obtain ⟨fd_Fold_init, F_Fold_init⟩ := k_Fold_init.mk
  have kk_Fold_tree := k_Fold_tree
  obtain ⟨fd_Fold_tree, F_Fold_tree⟩ := k_Fold_tree.mk
  have kk_Fold_tops := k_Fold_tops
  obtain ⟨fd_Fold_tops, F_Fold_tops⟩ := k_Fold_tops.mk
  have kk_Fold_count := k_Fold_count
  obtain ⟨fd_Fold_count, F_Fold_count⟩ := k_Fold_count.mk
  have kk_Fold_has := k_Fold_has
  obtain ⟨fd_Fold_has, F_Fold_has⟩ := k_Fold_has.mk
  obtain ⟨C_Pool, nc_Pool, pg_Pool, hd_Pool, po_Pool, sa_Pool, mk_Pool, kc_Pool, ⟨f_Pool_init, a_Pool_init, i_Pool_init, k_Pool_init⟩, ⟨f_Pool_put, a_Pool_put, i_Pool_put, k_Pool_put⟩, ⟨f_Pool_fold, a_Pool_fold, i_Pool_fold, k_Pool_fold⟩, na_Pool_shape, na_Pool_numbers, na_Pool_held⟩ := h_Pool
  have kk_Pool_init := k_Pool_init
  obtain ⟨fd_Pool_init, F_Pool_init⟩ := k_Pool_init.mk
  have kk_Pool_put := k_Pool_put
  obtain ⟨fd_Pool_put, F_Pool_put⟩ := k_Pool_put.mk
  have kk_Pool_fold := k_Pool_fold
  obtain ⟨fd_Pool_fold, F_Pool_fold⟩ := k_Pool_fold.mk
  obtain ⟨C_Finder, nc_Finder, pg_Finder, hd_Finder, po_Finder, sa_Finder, mk_Finder, kc_Finder, ⟨f_Finder_init, a_Finder_init, i_Finder_init, k_Finder_init⟩, ⟨f_Finder_below_parts, a_Finder_below_parts, i_Finder_below_parts, k_Finder_below_parts⟩, ⟨f_Finder_below_bunch, a_Finder_below_bunch, i_Finder_below_bunch, k_Finder_below_bunch⟩, ⟨f_Finder_below, a_Finder_below, i_Finder_below, k_Finder_below⟩, na_Finder_looked_at, na_Finder_many⟩ := h_Finder
  have kk_Finder_init := k_Finder_init
  obtain ⟨fd_Finder_init, F_Finder_init⟩ := k_Finder_init.mk
  have kk_Finder_below_parts := k_Finder_below_parts
  obtain ⟨fd_Finder_below_parts, F_Finder_below_parts⟩ := k_Finder_below_parts.mk
  have kk_Finder_below_bunch := k_Finder_below_bunch
  obtain ⟨fd_Finder_below_bunch, F_Finder_below_bunch⟩ := k_Finder_below_bunch.mk
  have kk_Finder_below := k_Finder_below
  obtain ⟨fd_Finder_below, F_Finder_below⟩ := k_Finder_below.mk
  obtain ⟨C_Tree, nc_Tree, pg_Tree, hd_Tree, po_Tree, sa_Tree, mk_Tree, kc_Tree, ⟨f_Tree_init, a_Tree_init, i_Tree_init, k_Tree_init⟩, ⟨f_Tree_len, a_Tree_len, i_Tree_len, k_Tree_len⟩, ⟨f_Tree_want, a_Tree_want, i_Tree_want, k_Tree_want⟩, ⟨f_Tree_columns, a_Tree_columns, i_Tree_columns, k_Tree_columns⟩, ⟨f_Tree_beneath, a_Tree_beneath, i_Tree_beneath, k_Tree_beneath⟩, ⟨f_Tree_children, a_Tree_children, i_Tree_children, k_Tree_children⟩, na_Tree_overs, na_Tree_kids, na_Tree_order⟩ := h_Tree
  have kk_Tree_init := k_Tree_init
  obtain ⟨fd_Tree_init, F_Tree_init⟩ := k_Tree_init.mk
  have kk_Tree_len := k_Tree_len
  obtain ⟨fd_Tree_len, F_Tree_len⟩ := k_Tree_len.mk
  have kk_Tree_want := k_Tree_want
  obtain ⟨fd_Tree_want, F_Tree_want⟩ := k_Tree_want.mk
  have kk_Tree_columns := k_Tree_columns
  obtain ⟨fd_Tree_columns, F_Tree_columns⟩ := k_Tree_columns.mk
  have kk_Tree_beneath := k_Tree_beneath
  obtain ⟨fd_Tree_beneath, F_Tree_beneath⟩ := k_Tree_beneath.mk
  have kk_Tree_children := k_Tree_children
  obtain ⟨fd_Tree_children, F_Tree_children⟩ := k_Tree_children.mk
  obtain ⟨C_Walker, nc_Walker, pg_Walker, hd_Walker, po_Walker, sa_Walker, mk_Walker, kc_Walker, ⟨f_Walker_init, a_Walker_init, i_Walker_init, k_Walker_init⟩, ⟨f_Walker_row, a_Walker_row, i_Walker_row, k_Walker_row⟩, ⟨f_Walker_where, a_Walker_where, i_Walker_where, k_Walker_where⟩, ⟨f_Walker_stand_at, a_Walker_stand_at, i_Walker_stand_at, k_Walker_stand_at⟩, ⟨f_Walker_step, a_Walker_step, i_Walker_step, k_Walker_step⟩, ⟨f_Walker_back, a_Walker_back, i_Walker_back, k_Walker_back⟩, ⟨f_Walker_to, a_Walker_to, i_Walker_to, k_Walker_to⟩, na_Walker_walked, na_Walker_standing⟩ := h_Walker
  have kk_Walker_init := k_Walker_init
  obtain ⟨fd_Walker_init, F_Walker_init⟩ := k_Walker_init.mk
  have kk_Walker_row := k_Walker_row
  obtain ⟨fd_Walker_row, F_Walker_row⟩ := k_Walker_row.mk
  have kk_Walker_where := k_Walker_where
  obtain ⟨fd_Walker_where, F_Walker_where⟩ := k_Walker_where.mk
  have kk_Walker_stand_at := k_Walker_stand_at
  obtain ⟨fd_Walker_stand_at, F_Walker_stand_at⟩ := k_Walker_stand_at.mk
  have kk_Walker_step := k_Walker_step
  obtain ⟨fd_Walker_step, F_Walker_step⟩ := k_Walker_step.mk
  have kk_Walker_back := k_Walker_back
  obtain ⟨fd_Walker_back, F_Walker_back⟩ := k_Walker_back.mk
  have kk_Walker_to := k_Walker_to
  obtain ⟨fd_Walker_to, F_Walker_to⟩ := k_Walker_to.mk
  obtain ⟨u_LETTERS, c_LETTERS, r_LETTERS⟩ := g_LETTERS
  obtain ⟨u_LONGEST_NAME, c_LONGEST_NAME, r_LONGEST_NAME⟩ := g_LONGEST_NAME
  obtain ⟨u_MOST_COLUMNS, c_MOST_COLUMNS, r_MOST_COLUMNS⟩ := g_MOST_COLUMNS
  have b_is_name := F_is_name.binds (ps := ["thing"]) fun _ _ _ _ _ _ us hl => match us, hl with | [_], _ => rfl
  have b_is_value := F_is_value.binds (ps := ["thing"]) fun _ _ _ _ _ _ us hl => match us, hl with | [_], _ => rfl
  have b_is_row := F_is_row.binds (ps := ["thing", "many"]) fun _ _ _ _ _ _ us hl => match us, hl with | [_, _], _ => rfl
  have b_product_at := F_product_at.binds (ps := ["numbers", "parts"]) fun _ _ _ _ _ _ us hl => match us, hl with | [_, _], _ => rfl
  have b_by_columns := F_by_columns.binds (ps := ["fold"]) fun _ _ _ _ _ _ us hl => match us, hl with | [_], _ => rfl
  have b_counts_of := F_counts_of.binds (ps := ["fold"]) fun _ _ _ _ _ _ us hl => match us, hl with | [_], _ => rfl
  have b_parts_at := F_parts_at.binds (ps := ["fold", "number", "value"]) fun _ _ _ _ _ _ us hl => match us, hl with | [_, _, _], _ => rfl
  have b_holds := F_holds.binds (ps := ["fold", "number", "values"]) fun _ _ _ _ _ _ us hl => match us, hl with | [_, _, _], _ => rfl
  have b_visit := F_visit.binds (ps := ["held", "number", "places", "order"]) fun _ _ _ _ _ _ us hl => match us, hl with | [_, _, _, _], _ => rfl
  have b_moved := F_moved.binds (ps := ["parts", "places"]) fun _ _ _ _ _ _ us hl => match us, hl with | [_, _], _ => rfl
  have b_parts_row := F_parts_row.binds (ps := ["fold", "many", "parts", "number"]) fun _ _ _ _ _ _ us hl => match us, hl with | [_, _, _, _], _ => rfl
  have b_bunch_row := F_bunch_row.binds (ps := ["fold", "many", "bunch", "number"]) fun _ _ _ _ _ _ us hl => match us, hl with | [_, _, _, _], _ => rfl
  have b_row_at := F_row_at.binds (ps := ["fold", "number"]) fun _ _ _ _ _ _ us hl => match us, hl with | [_, _], _ => rfl
  have b_place_of := F_place_of.binds (ps := ["fold", "row"]) fun _ _ _ _ _ _ us hl => match us, hl with | [_, _], _ => rfl
  have b_first_from := F_first_from.binds (ps := ["fold", "row"]) fun _ _ _ _ _ _ us hl => match us, hl with | [_, _], _ => rfl
  have b_between := F_between.binds (ps := ["fold", "low", "high"]) fun _ _ _ _ _ _ us hl => match us, hl with | [_, _, _], _ => rfl
  have b_is_part := F_is_part.binds (ps := ["thing", "columns", "many", "bunches"]) fun _ _ _ _ _ _ us hl => match us, hl with | [_, _, _, _], _ => rfl
  have b_is_bunch := F_is_bunch.binds (ps := ["tree", "thing", "bunches"]) fun _ _ _ _ _ _ us hl => match us, hl with | [_, _, _], _ => rfl
  have b_fold_of := F_fold_of.binds (ps := ["tree", "bunches", "tops"]) fun _ _ _ _ _ _ us hl => match us, hl with | [_, _, _], _ => rfl
  have b_at_places := F_at_places.binds (ps := ["found", "parts"]) fun _ _ _ _ _ _ us hl => match us, hl with | [_, _], _ => rfl
  have b_is_pair := F_is_pair.binds (ps := ["thing", "overs"]) fun _ _ _ _ _ _ us hl => match us, hl with | [_, _], _ => rfl
  have b_order_from := F_order_from.binds (ps := ["kids", "column"]) fun _ _ _ _ _ _ us hl => match us, hl with | [_, _], _ => rfl
  have b__law_cell_at := F__law_cell_at.binds (ps := ["_law_script", "_law_k"]) fun _ _ _ _ _ _ us hl => match us, hl with | [_, _], _ => rfl
  have b__law_well := F__law_well.binds (ps := ["_law_cell"]) fun _ _ _ _ _ _ us hl => match us, hl with | [_], _ => rfl
  have b__law_draw := F__law_draw.binds (ps := ["_law_well_here", "_law_many"]) fun _ _ _ _ _ _ us hl => match us, hl with | [_, _], _ => rfl
  have b__law_one := F__law_one.binds (ps := ["_law_well_here", "_law_some_here"]) fun _ _ _ _ _ _ us hl => match us, hl with | [_, _], _ => rfl
  have b__law_names := F__law_names.binds (ps := ["_law_well_here", "_law_many"]) fun _ _ _ _ _ _ us hl => match us, hl with | [_, _], _ => rfl
  have b__law_pairs := F__law_pairs.binds (ps := ["_law_well_here", "_law_many"]) fun _ _ _ _ _ _ us hl => match us, hl with | [_, _], _ => rfl
  have b__law_beneath := F__law_beneath.binds (ps := ["_law_pairs_here", "_law_column"]) fun _ _ _ _ _ _ us hl => match us, hl with | [_, _], _ => rfl
  have b__law_some := F__law_some.binds (ps := ["_law_well_here", "_law_many"]) fun _ _ _ _ _ _ us hl => match us, hl with | [_, _], _ => rfl
  have b__law_great := F__law_great.binds (ps := ["_law_well_here", "_law_pairs_here"]) fun _ _ _ _ _ _ us hl => match us, hl with | [_, _], _ => rfl
  have b__law_counts := F__law_counts.binds (ps := ["_law_bunches"]) fun _ _ _ _ _ _ us hl => match us, hl with | [_], _ => rfl
  have b__law_product := F__law_product.binds (ps := ["_law_numbers", "_law_parts"]) fun _ _ _ _ _ _ us hl => match us, hl with | [_, _], _ => rfl
  have b__law_number := F__law_number.binds (ps := ["_law_bunches", "_law_many", "_law_parts", "_law_row"]) fun _ _ _ _ _ _ us hl => match us, hl with | [_, _, _, _], _ => rfl
  have b__law_some_row := F__law_some_row.binds (ps := ["_law_well_here", "_law_bunches", "_law_parts"]) fun _ _ _ _ _ _ us hl => match us, hl with | [_, _, _], _ => rfl
  have b__law_next_right := F__law_next_right.binds (ps := ["_law_fold", "_law_number_here", "_law_last"]) fun _ _ _ _ _ _ us hl => match us, hl with | [_, _, _], _ => rfl
  have b__law_walked := F__law_walked.binds (ps := ["_law_fold", "_law_number_here", "_law_other"]) fun _ _ _ _ _ _ us hl => match us, hl with | [_, _, _], _ => rfl
  have b_law := F_law.binds (ps := ["_law_script"]) fun _ _ _ _ _ _ us hl => match us, hl with | [_], _ => rfl
  have b_Fold_init := F_Fold_init.binds (ps := ["self", "tree", "bunches", "tops"]) fun _ _ _ _ _ _ us hl => match us, hl with | [_, _, _, _], _ => rfl
  have b_Fold_tree := F_Fold_tree.binds (ps := ["self"]) fun _ _ _ _ _ _ us hl => match us, hl with | [_], _ => rfl
  have b_Fold_tops := F_Fold_tops.binds (ps := ["self"]) fun _ _ _ _ _ _ us hl => match us, hl with | [_], _ => rfl
  have b_Fold_count := F_Fold_count.binds (ps := ["self"]) fun _ _ _ _ _ _ us hl => match us, hl with | [_], _ => rfl
  have b_Fold_has := F_Fold_has.binds (ps := ["self", "row"]) fun _ _ _ _ _ _ us hl => match us, hl with | [_, _], _ => rfl
  have b_Pool_init := F_Pool_init.binds (ps := ["self", "tree"]) fun _ _ _ _ _ _ us hl => match us, hl with | [_, _], _ => rfl
  have b_Pool_put := F_Pool_put.binds (ps := ["self", "column", "entries"]) fun _ _ _ _ _ _ us hl => match us, hl with | [_, _, _], _ => rfl
  have b_Pool_fold := F_Pool_fold.binds (ps := ["self", "tops"]) fun _ _ _ _ _ _ us hl => match us, hl with | [_, _], _ => rfl
  have b_Finder_init := F_Finder_init.binds (ps := ["self", "fold"]) fun _ _ _ _ _ _ us hl => match us, hl with | [_, _], _ => rfl
  have b_Finder_below_parts := F_Finder_below_parts.binds (ps := ["self", "parts", "bound"]) fun _ _ _ _ _ _ us hl => match us, hl with | [_, _, _], _ => rfl
  have b_Finder_below_bunch := F_Finder_below_bunch.binds (ps := ["self", "bunch", "bound"]) fun _ _ _ _ _ _ us hl => match us, hl with | [_, _, _], _ => rfl
  have b_Finder_below := F_Finder_below.binds (ps := ["self", "bound"]) fun _ _ _ _ _ _ us hl => match us, hl with | [_, _], _ => rfl
  have b_Tree_init := F_Tree_init.binds (ps := ["self", "pairs"]) fun _ _ _ _ _ _ us hl => match us, hl with | [_, _], _ => rfl
  have b_Tree_len := F_Tree_len.binds (ps := ["self"]) fun _ _ _ _ _ _ us hl => match us, hl with | [_], _ => rfl
  have b_Tree_want := F_Tree_want.binds (ps := ["self", "column"]) fun _ _ _ _ _ _ us hl => match us, hl with | [_, _], _ => rfl
  have b_Tree_columns := F_Tree_columns.binds (ps := ["self"]) fun _ _ _ _ _ _ us hl => match us, hl with | [_], _ => rfl
  have b_Tree_beneath := F_Tree_beneath.binds (ps := ["self", "column"]) fun _ _ _ _ _ _ us hl => match us, hl with | [_, _], _ => rfl
  have b_Walker_init := F_Walker_init.binds (ps := ["self", "fold"]) fun _ _ _ _ _ _ us hl => match us, hl with | [_, _], _ => rfl
  have b_Walker_row := F_Walker_row.binds (ps := ["self"]) fun _ _ _ _ _ _ us hl => match us, hl with | [_], _ => rfl
  have b_Walker_where := F_Walker_where.binds (ps := ["self"]) fun _ _ _ _ _ _ us hl => match us, hl with | [_], _ => rfl
  have b_Walker_stand_at := F_Walker_stand_at.binds (ps := ["self", "number"]) fun _ _ _ _ _ _ us hl => match us, hl with | [_, _], _ => rfl
  have b_Walker_to := F_Walker_to.binds (ps := ["self", "row"]) fun _ _ _ _ _ _ us hl => match us, hl with | [_, _], _ => rfl
  have e := hfa.symm.trans (PySem.W.mg_of X G a_law)
  cases e
  exact ⟨_, fun s v => .of_eq rfl, fun base _ _ => ok_law (P := l.prog) (w := w) (base := base) ({
    C_Fold := C_Fold,
    C_Pool := C_Pool,
    C_Finder := C_Finder,
    C_Tree := C_Tree,
    C_Walker := C_Walker,
    f_is_name := f_is_name,
    fd_is_name := fd_is_name,
    F_is_name := F_is_name,
    b_is_name := b_is_name,
    m_is_name := PySem.W.mg_of X G a_is_name,
    f_is_value := f_is_value,
    fd_is_value := fd_is_value,
    F_is_value := F_is_value,
    b_is_value := b_is_value,
    m_is_value := PySem.W.mg_of X G a_is_value,
    f_is_row := f_is_row,
    fd_is_row := fd_is_row,
    F_is_row := F_is_row,
    b_is_row := b_is_row,
    m_is_row := PySem.W.mg_of X G a_is_row,
    f_want_row := f_want_row,
    fd_want_row := fd_want_row,
    F_want_row := F_want_row,
    m_want_row := PySem.W.mg_of X G a_want_row,
    f_product_at := f_product_at,
    fd_product_at := fd_product_at,
    F_product_at := F_product_at,
    b_product_at := b_product_at,
    m_product_at := PySem.W.mg_of X G a_product_at,
    f_by_columns := f_by_columns,
    fd_by_columns := fd_by_columns,
    F_by_columns := F_by_columns,
    b_by_columns := b_by_columns,
    m_by_columns := PySem.W.mg_of X G a_by_columns,
    f_counts_of := f_counts_of,
    fd_counts_of := fd_counts_of,
    F_counts_of := F_counts_of,
    b_counts_of := b_counts_of,
    m_counts_of := PySem.W.mg_of X G a_counts_of,
    f_parts_at := f_parts_at,
    fd_parts_at := fd_parts_at,
    F_parts_at := F_parts_at,
    b_parts_at := b_parts_at,
    m_parts_at := PySem.W.mg_of X G a_parts_at,
    f_holds := f_holds,
    fd_holds := fd_holds,
    F_holds := F_holds,
    b_holds := b_holds,
    m_holds := PySem.W.mg_of X G a_holds,
    f_visit := f_visit,
    fd_visit := fd_visit,
    F_visit := F_visit,
    b_visit := b_visit,
    m_visit := PySem.W.mg_of X G a_visit,
    f_moved := f_moved,
    fd_moved := fd_moved,
    F_moved := F_moved,
    b_moved := b_moved,
    m_moved := PySem.W.mg_of X G a_moved,
    f_parts_row := f_parts_row,
    fd_parts_row := fd_parts_row,
    F_parts_row := F_parts_row,
    b_parts_row := b_parts_row,
    m_parts_row := PySem.W.mg_of X G a_parts_row,
    f_bunch_row := f_bunch_row,
    fd_bunch_row := fd_bunch_row,
    F_bunch_row := F_bunch_row,
    b_bunch_row := b_bunch_row,
    m_bunch_row := PySem.W.mg_of X G a_bunch_row,
    f_row_at := f_row_at,
    fd_row_at := fd_row_at,
    F_row_at := F_row_at,
    b_row_at := b_row_at,
    m_row_at := PySem.W.mg_of X G a_row_at,
    f_place_of := f_place_of,
    fd_place_of := fd_place_of,
    F_place_of := F_place_of,
    b_place_of := b_place_of,
    m_place_of := PySem.W.mg_of X G a_place_of,
    f_first_from := f_first_from,
    fd_first_from := fd_first_from,
    F_first_from := F_first_from,
    b_first_from := b_first_from,
    m_first_from := PySem.W.mg_of X G a_first_from,
    f_between := f_between,
    fd_between := fd_between,
    F_between := F_between,
    b_between := b_between,
    m_between := PySem.W.mg_of X G a_between,
    f_is_part := f_is_part,
    fd_is_part := fd_is_part,
    F_is_part := F_is_part,
    b_is_part := b_is_part,
    m_is_part := PySem.W.mg_of X G a_is_part,
    f_is_bunch := f_is_bunch,
    fd_is_bunch := fd_is_bunch,
    F_is_bunch := F_is_bunch,
    b_is_bunch := b_is_bunch,
    m_is_bunch := PySem.W.mg_of X G a_is_bunch,
    f_fold_of := f_fold_of,
    fd_fold_of := fd_fold_of,
    F_fold_of := F_fold_of,
    b_fold_of := b_fold_of,
    m_fold_of := PySem.W.mg_of X G a_fold_of,
    f_at_places := f_at_places,
    fd_at_places := fd_at_places,
    F_at_places := F_at_places,
    b_at_places := b_at_places,
    m_at_places := PySem.W.mg_of X G a_at_places,
    f_is_pair := f_is_pair,
    fd_is_pair := fd_is_pair,
    F_is_pair := F_is_pair,
    b_is_pair := b_is_pair,
    m_is_pair := PySem.W.mg_of X G a_is_pair,
    f_order_from := f_order_from,
    fd_order_from := fd_order_from,
    F_order_from := F_order_from,
    b_order_from := b_order_from,
    m_order_from := PySem.W.mg_of X G a_order_from,
    f__law_cell_at := f__law_cell_at,
    fd__law_cell_at := fd__law_cell_at,
    F__law_cell_at := F__law_cell_at,
    b__law_cell_at := b__law_cell_at,
    m__law_cell_at := PySem.W.mg_of X G a__law_cell_at,
    f__law_well := f__law_well,
    fd__law_well := fd__law_well,
    F__law_well := F__law_well,
    b__law_well := b__law_well,
    m__law_well := PySem.W.mg_of X G a__law_well,
    f__law_draw := f__law_draw,
    fd__law_draw := fd__law_draw,
    F__law_draw := F__law_draw,
    b__law_draw := b__law_draw,
    m__law_draw := PySem.W.mg_of X G a__law_draw,
    f__law_one := f__law_one,
    fd__law_one := fd__law_one,
    F__law_one := F__law_one,
    b__law_one := b__law_one,
    m__law_one := PySem.W.mg_of X G a__law_one,
    f__law_names := f__law_names,
    fd__law_names := fd__law_names,
    F__law_names := F__law_names,
    b__law_names := b__law_names,
    m__law_names := PySem.W.mg_of X G a__law_names,
    f__law_pairs := f__law_pairs,
    fd__law_pairs := fd__law_pairs,
    F__law_pairs := F__law_pairs,
    b__law_pairs := b__law_pairs,
    m__law_pairs := PySem.W.mg_of X G a__law_pairs,
    f__law_beneath := f__law_beneath,
    fd__law_beneath := fd__law_beneath,
    F__law_beneath := F__law_beneath,
    b__law_beneath := b__law_beneath,
    m__law_beneath := PySem.W.mg_of X G a__law_beneath,
    f__law_some := f__law_some,
    fd__law_some := fd__law_some,
    F__law_some := F__law_some,
    b__law_some := b__law_some,
    m__law_some := PySem.W.mg_of X G a__law_some,
    f__law_great := f__law_great,
    fd__law_great := fd__law_great,
    F__law_great := F__law_great,
    b__law_great := b__law_great,
    m__law_great := PySem.W.mg_of X G a__law_great,
    f__law_counts := f__law_counts,
    fd__law_counts := fd__law_counts,
    F__law_counts := F__law_counts,
    b__law_counts := b__law_counts,
    m__law_counts := PySem.W.mg_of X G a__law_counts,
    f__law_product := f__law_product,
    fd__law_product := fd__law_product,
    F__law_product := F__law_product,
    b__law_product := b__law_product,
    m__law_product := PySem.W.mg_of X G a__law_product,
    f__law_number := f__law_number,
    fd__law_number := fd__law_number,
    F__law_number := F__law_number,
    b__law_number := b__law_number,
    m__law_number := PySem.W.mg_of X G a__law_number,
    f__law_some_row := f__law_some_row,
    fd__law_some_row := fd__law_some_row,
    F__law_some_row := F__law_some_row,
    b__law_some_row := b__law_some_row,
    m__law_some_row := PySem.W.mg_of X G a__law_some_row,
    f__law_next_right := f__law_next_right,
    fd__law_next_right := fd__law_next_right,
    F__law_next_right := F__law_next_right,
    b__law_next_right := b__law_next_right,
    m__law_next_right := PySem.W.mg_of X G a__law_next_right,
    f__law_walked := f__law_walked,
    fd__law_walked := fd__law_walked,
    F__law_walked := F__law_walked,
    b__law_walked := b__law_walked,
    m__law_walked := PySem.W.mg_of X G a__law_walked,
    f_law := fa,
    fd_law := _,
    F_law := F_law,
    b_law := b_law,
    m_law := PySem.W.mg_of X G a_law,
    f_Fold_init := f_Fold_init,
    fd_Fold_init := fd_Fold_init,
    F_Fold_init := F_Fold_init,
    b_Fold_init := b_Fold_init,
    mt_Fold_init := ⟨a_Fold_init, i_Fold_init, F_Fold_init.kp⟩,
    f_Fold_tree := f_Fold_tree,
    fd_Fold_tree := fd_Fold_tree,
    F_Fold_tree := F_Fold_tree,
    b_Fold_tree := b_Fold_tree,
    mt_Fold_tree := ⟨a_Fold_tree, i_Fold_tree, F_Fold_tree.kp⟩,
    f_Fold_tops := f_Fold_tops,
    fd_Fold_tops := fd_Fold_tops,
    F_Fold_tops := F_Fold_tops,
    b_Fold_tops := b_Fold_tops,
    mt_Fold_tops := ⟨a_Fold_tops, i_Fold_tops, F_Fold_tops.kp⟩,
    f_Fold_count := f_Fold_count,
    fd_Fold_count := fd_Fold_count,
    F_Fold_count := F_Fold_count,
    b_Fold_count := b_Fold_count,
    mt_Fold_count := ⟨a_Fold_count, i_Fold_count, F_Fold_count.kp⟩,
    f_Fold_has := f_Fold_has,
    fd_Fold_has := fd_Fold_has,
    F_Fold_has := F_Fold_has,
    b_Fold_has := b_Fold_has,
    mt_Fold_has := ⟨a_Fold_has, i_Fold_has, F_Fold_has.kp⟩,
    f_Pool_init := f_Pool_init,
    fd_Pool_init := fd_Pool_init,
    F_Pool_init := F_Pool_init,
    b_Pool_init := b_Pool_init,
    mt_Pool_init := ⟨a_Pool_init, i_Pool_init, F_Pool_init.kp⟩,
    f_Pool_put := f_Pool_put,
    fd_Pool_put := fd_Pool_put,
    F_Pool_put := F_Pool_put,
    b_Pool_put := b_Pool_put,
    mt_Pool_put := ⟨a_Pool_put, i_Pool_put, F_Pool_put.kp⟩,
    f_Pool_fold := f_Pool_fold,
    fd_Pool_fold := fd_Pool_fold,
    F_Pool_fold := F_Pool_fold,
    b_Pool_fold := b_Pool_fold,
    mt_Pool_fold := ⟨a_Pool_fold, i_Pool_fold, F_Pool_fold.kp⟩,
    f_Finder_init := f_Finder_init,
    fd_Finder_init := fd_Finder_init,
    F_Finder_init := F_Finder_init,
    b_Finder_init := b_Finder_init,
    mt_Finder_init := ⟨a_Finder_init, i_Finder_init, F_Finder_init.kp⟩,
    f_Finder_below_parts := f_Finder_below_parts,
    fd_Finder_below_parts := fd_Finder_below_parts,
    F_Finder_below_parts := F_Finder_below_parts,
    b_Finder_below_parts := b_Finder_below_parts,
    mt_Finder_below_parts := ⟨a_Finder_below_parts, i_Finder_below_parts, F_Finder_below_parts.kp⟩,
    f_Finder_below_bunch := f_Finder_below_bunch,
    fd_Finder_below_bunch := fd_Finder_below_bunch,
    F_Finder_below_bunch := F_Finder_below_bunch,
    b_Finder_below_bunch := b_Finder_below_bunch,
    mt_Finder_below_bunch := ⟨a_Finder_below_bunch, i_Finder_below_bunch, F_Finder_below_bunch.kp⟩,
    f_Finder_below := f_Finder_below,
    fd_Finder_below := fd_Finder_below,
    F_Finder_below := F_Finder_below,
    b_Finder_below := b_Finder_below,
    mt_Finder_below := ⟨a_Finder_below, i_Finder_below, F_Finder_below.kp⟩,
    f_Tree_init := f_Tree_init,
    fd_Tree_init := fd_Tree_init,
    F_Tree_init := F_Tree_init,
    b_Tree_init := b_Tree_init,
    mt_Tree_init := ⟨a_Tree_init, i_Tree_init, F_Tree_init.kp⟩,
    f_Tree_len := f_Tree_len,
    fd_Tree_len := fd_Tree_len,
    F_Tree_len := F_Tree_len,
    b_Tree_len := b_Tree_len,
    mt_Tree_len := ⟨a_Tree_len, i_Tree_len, F_Tree_len.kp⟩,
    f_Tree_want := f_Tree_want,
    fd_Tree_want := fd_Tree_want,
    F_Tree_want := F_Tree_want,
    b_Tree_want := b_Tree_want,
    mt_Tree_want := ⟨a_Tree_want, i_Tree_want, F_Tree_want.kp⟩,
    f_Tree_columns := f_Tree_columns,
    fd_Tree_columns := fd_Tree_columns,
    F_Tree_columns := F_Tree_columns,
    b_Tree_columns := b_Tree_columns,
    mt_Tree_columns := ⟨a_Tree_columns, i_Tree_columns, F_Tree_columns.kp⟩,
    f_Tree_beneath := f_Tree_beneath,
    fd_Tree_beneath := fd_Tree_beneath,
    F_Tree_beneath := F_Tree_beneath,
    b_Tree_beneath := b_Tree_beneath,
    mt_Tree_beneath := ⟨a_Tree_beneath, i_Tree_beneath, F_Tree_beneath.kp⟩,
    f_Tree_children := f_Tree_children,
    fd_Tree_children := fd_Tree_children,
    F_Tree_children := F_Tree_children,
    mt_Tree_children := ⟨a_Tree_children, i_Tree_children, F_Tree_children.kp⟩,
    f_Walker_init := f_Walker_init,
    fd_Walker_init := fd_Walker_init,
    F_Walker_init := F_Walker_init,
    b_Walker_init := b_Walker_init,
    mt_Walker_init := ⟨a_Walker_init, i_Walker_init, F_Walker_init.kp⟩,
    f_Walker_row := f_Walker_row,
    fd_Walker_row := fd_Walker_row,
    F_Walker_row := F_Walker_row,
    b_Walker_row := b_Walker_row,
    mt_Walker_row := ⟨a_Walker_row, i_Walker_row, F_Walker_row.kp⟩,
    f_Walker_where := f_Walker_where,
    fd_Walker_where := fd_Walker_where,
    F_Walker_where := F_Walker_where,
    b_Walker_where := b_Walker_where,
    mt_Walker_where := ⟨a_Walker_where, i_Walker_where, F_Walker_where.kp⟩,
    f_Walker_stand_at := f_Walker_stand_at,
    fd_Walker_stand_at := fd_Walker_stand_at,
    F_Walker_stand_at := F_Walker_stand_at,
    b_Walker_stand_at := b_Walker_stand_at,
    mt_Walker_stand_at := ⟨a_Walker_stand_at, i_Walker_stand_at, F_Walker_stand_at.kp⟩,
    f_Walker_step := f_Walker_step,
    fd_Walker_step := fd_Walker_step,
    F_Walker_step := F_Walker_step,
    mt_Walker_step := ⟨a_Walker_step, i_Walker_step, F_Walker_step.kp⟩,
    f_Walker_back := f_Walker_back,
    fd_Walker_back := fd_Walker_back,
    F_Walker_back := F_Walker_back,
    mt_Walker_back := ⟨a_Walker_back, i_Walker_back, F_Walker_back.kp⟩,
    f_Walker_to := f_Walker_to,
    fd_Walker_to := fd_Walker_to,
    F_Walker_to := F_Walker_to,
    b_Walker_to := b_Walker_to,
    mt_Walker_to := ⟨a_Walker_to, i_Walker_to, F_Walker_to.kp⟩,
    cl_Fold := ⟨pg_Fold, hd_Fold, po_Fold, sa_Fold⟩,
    M_Fold := ⟨mk_Fold, a_Fold_init, i_Fold_init, kc_Fold⟩,
    mC_Fold := PySem.W.mg_of X G nc_Fold,
    na_Fold_shape := na_Fold_shape,
    na_Fold_held := na_Fold_held,
    na_Fold_roots := na_Fold_roots,
    cl_Pool := ⟨pg_Pool, hd_Pool, po_Pool, sa_Pool⟩,
    M_Pool := ⟨mk_Pool, a_Pool_init, i_Pool_init, kc_Pool⟩,
    mC_Pool := PySem.W.mg_of X G nc_Pool,
    na_Pool_shape := na_Pool_shape,
    na_Pool_numbers := na_Pool_numbers,
    na_Pool_held := na_Pool_held,
    cl_Finder := ⟨pg_Finder, hd_Finder, po_Finder, sa_Finder⟩,
    M_Finder := ⟨mk_Finder, a_Finder_init, i_Finder_init, kc_Finder⟩,
    mC_Finder := PySem.W.mg_of X G nc_Finder,
    na_Finder_looked_at := na_Finder_looked_at,
    na_Finder_many := na_Finder_many,
    cl_Tree := ⟨pg_Tree, hd_Tree, po_Tree, sa_Tree⟩,
    M_Tree := ⟨mk_Tree, a_Tree_init, i_Tree_init, kc_Tree⟩,
    mC_Tree := PySem.W.mg_of X G nc_Tree,
    na_Tree_overs := na_Tree_overs,
    na_Tree_kids := na_Tree_kids,
    na_Tree_order := na_Tree_order,
    cl_Walker := ⟨pg_Walker, hd_Walker, po_Walker, sa_Walker⟩,
    M_Walker := ⟨mk_Walker, a_Walker_init, i_Walker_init, kc_Walker⟩,
    mC_Walker := PySem.W.mg_of X G nc_Walker,
    na_Walker_walked := na_Walker_walked,
    na_Walker_standing := na_Walker_standing,
    n_len := PySem.W.mg_none_of X G z_len,
    n_int := PySem.W.mg_none_of X G z_int,
    n_max := PySem.W.mg_none_of X G z_max,
    n_min := PySem.W.mg_none_of X G z_min,
    n_sum := PySem.W.mg_none_of X G z_sum,
    n_all := PySem.W.mg_none_of X G z_all,
    n_sorted := PySem.W.mg_none_of X G z_sorted,
    n_isinstance := PySem.W.mg_none_of X G z_isinstance,
    n_tuple := PySem.W.mg_none_of X G z_tuple,
    n_list := PySem.W.mg_none_of X G z_list,
    n_dict := PySem.W.mg_none_of X G z_dict,
    n_range := PySem.W.mg_none_of X G z_range,
    n_enumerate := PySem.W.mg_none_of X G z_enumerate,
    n_zip := PySem.W.mg_none_of X G z_zip,
    n_reversed := PySem.W.mg_none_of X G z_reversed,
    n_str := PySem.W.mg_none_of X G z_str,
    n_bool := PySem.W.mg_none_of X G z_bool,
    u_LETTERS := u_LETTERS,
    c_LETTERS := PySem.W.mg_of X G c_LETTERS,
    r_LETTERS := r_LETTERS,
    u_LONGEST_NAME := u_LONGEST_NAME,
    c_LONGEST_NAME := PySem.W.mg_of X G c_LONGEST_NAME,
    r_LONGEST_NAME := r_LONGEST_NAME,
    u_MOST_COLUMNS := u_MOST_COLUMNS,
    c_MOST_COLUMNS := PySem.W.mg_of X G c_MOST_COLUMNS,
    r_MOST_COLUMNS := r_MOST_COLUMNS } : Txt K mg)⟩
theorem walk {l : PySem.W.OpenLaw} {q : Program} {loose : List Str} {XP : (Str → Option Value) → Heap → Prop} {YP : World → Heap → Prop} {d : DefRec} {K : Params → PySem.W.Frag} (hn : l.most = some 63) (hdf : d.params.defaults = [])
    (hY : ∀ (w : World) (h : Heap), YP w h → (K w.params).In h)
    (F : ∀ (w : World) (mg : Str → Option Value) (fa : Addr) (h : Heap), (K w.params).In h → h.Ns mainGlobals mg → mg d.name = some (.ref fa) →
      ∃ fd : FuncData, (∀ (s : Shared) (u : Value), BindsTo s fd ⟨[u], []⟩ [("_law_script", u)]) ∧ ∀ base : Heap, (K w.params).In base → base.Ns mainGlobals mg → FnOk l.prog w (K w.params) mg base CX0 35 fa fd ["_law_script"] (sp_law (K w.params))) :
    PySem.W.WalkO q loose XP YP l.row.toRowW d [] (fun f vs => PySem.call f vs) :=
  L2.walk_of (n := 63) (k := 35) (x := "_law_script") (CX := fun _ => CX0) (sp := fun w => sp_law (K w.params)) hn (by decide) hdf ⟨rfl, by decide, by decide⟩ hY F (fun _ _ a ns hl _ hS => ⟨a, ns, rfl, hS, Nat.le_trans hl (by decide), fun _ => rfl⟩) fun _ _ _ _ _ z => z
end Fb
set_option linter.all false
open PySem PySem.W PyProof.Rows
set_option maxRecDepth 100000 in
set_option maxHeartbeats 0 in
theorem PySem.Challenge.cw_foldbough_k51_whole_numbers_of_great_fol_holds : PySem.Challenge.rw_foldbough_k51_whole_numbers_of_great_fol.Holds := by
  w_on; o_law; k_head; (case hw => w_witness2)
  k_fill
  refine Fb.walk (l := PySem.Challenge.rw_foldbough_k51_whole_numbers_of_great_fol) rfl rfl (fun w h Y => PySem.W.kIn_of Y) ?F
  case F =>
    intro w mg fa h KX G hmg
    refine' Fb.all_mk KX G hmg ?h_is_name ?h_is_value ?h_is_row ?h_want_row ?h_product_at ?h_by_columns ?h_counts_of ?h_parts_at ?h_holds ?h_visit ?h_moved ?h_parts_row ?h_bunch_row ?h_row_at ?h_place_of ?h_first_from ?h_between ?h_is_part ?h_is_bunch ?h_fold_of ?h_at_places ?h_is_pair ?h_order_from ?h__law_cell_at ?h__law_well ?h__law_draw ?h__law_one ?h__law_names ?h__law_pairs ?h__law_beneath ?h__law_some ?h__law_great ?h__law_counts ?h__law_product ?h__law_number ?h__law_some_row ?h__law_next_right ?h__law_walked ?h_law ?h_Fold ?h_Pool ?h_Finder ?h_Tree ?h_Walker ?z_len ?z_int ?z_max ?z_min ?z_sum ?z_all ?z_sorted ?z_isinstance ?z_tuple ?z_list ?z_dict ?z_range ?z_enumerate ?z_zip ?z_reversed ?z_str ?z_bool ?g_LETTERS ?g_LONGEST_NAME ?g_MOST_COLUMNS
    case h_is_name => (refine' Fb.fnm ?a (Fb.fnk ?l ?c ?k); (case a => k_is); (case l => k_is); (case c => k_is); (case k => k_is))
    case h_is_value => (refine' Fb.fnm ?a (Fb.fnk ?l ?c ?k); (case a => k_is); (case l => k_is); (case c => k_is); (case k => k_is))
    case h_is_row => (refine' Fb.fnm ?a (Fb.fnk ?l ?c ?k); (case a => k_is); (case l => k_is); (case c => k_is); (case k => k_is))
    case h_want_row => (refine' Fb.fnm ?a (Fb.fndk ?l ?c ?k ?t ?r); (case a => k_is); (case l => k_is); (case c => k_is); (case k => k_is); (case t => k_is); (case r => exact ⟨_, rfl⟩))
    case h_product_at => (refine' Fb.fnm ?a (Fb.fnk ?l ?c ?k); (case a => k_is); (case l => k_is); (case c => k_is); (case k => k_is))
    case h_by_columns => (refine' Fb.fnm ?a (Fb.fnk ?l ?c ?k); (case a => k_is); (case l => k_is); (case c => k_is); (case k => k_is))
    case h_counts_of => (refine' Fb.fnm ?a (Fb.fnk ?l ?c ?k); (case a => k_is); (case l => k_is); (case c => k_is); (case k => k_is))
    case h_parts_at => (refine' Fb.fnm ?a (Fb.fnk ?l ?c ?k); (case a => k_is); (case l => k_is); (case c => k_is); (case k => k_is))
    case h_holds => (refine' Fb.fnm ?a (Fb.fnk ?l ?c ?k); (case a => k_is); (case l => k_is); (case c => k_is); (case k => k_is))
    case h_visit => (refine' Fb.fnm ?a (Fb.fnk ?l ?c ?k); (case a => k_is); (case l => k_is); (case c => k_is); (case k => k_is))
    case h_moved => (refine' Fb.fnm ?a (Fb.fnk ?l ?c ?k); (case a => k_is); (case l => k_is); (case c => k_is); (case k => k_is))
    case h_parts_row => (refine' Fb.fnm ?a (Fb.fnk ?l ?c ?k); (case a => k_is); (case l => k_is); (case c => k_is); (case k => k_is))
    case h_bunch_row => (refine' Fb.fnm ?a (Fb.fnk ?l ?c ?k); (case a => k_is); (case l => k_is); (case c => k_is); (case k => k_is))
    case h_row_at => (refine' Fb.fnm ?a (Fb.fnk ?l ?c ?k); (case a => k_is); (case l => k_is); (case c => k_is); (case k => k_is))
    case h_place_of => (refine' Fb.fnm ?a (Fb.fnk ?l ?c ?k); (case a => k_is); (case l => k_is); (case c => k_is); (case k => k_is))
    case h_first_from => (refine' Fb.fnm ?a (Fb.fnk ?l ?c ?k); (case a => k_is); (case l => k_is); (case c => k_is); (case k => k_is))
    case h_between => (refine' Fb.fnm ?a (Fb.fnk ?l ?c ?k); (case a => k_is); (case l => k_is); (case c => k_is); (case k => k_is))
    case h_is_part => (refine' Fb.fnm ?a (Fb.fnk ?l ?c ?k); (case a => k_is); (case l => k_is); (case c => k_is); (case k => k_is))
    case h_is_bunch => (refine' Fb.fnm ?a (Fb.fnk ?l ?c ?k); (case a => k_is); (case l => k_is); (case c => k_is); (case k => k_is))
    case h_fold_of => (refine' Fb.fnm ?a (Fb.fnk ?l ?c ?k); (case a => k_is); (case l => k_is); (case c => k_is); (case k => k_is))
    case h_at_places => (refine' Fb.fnm ?a (Fb.fnk ?l ?c ?k); (case a => k_is); (case l => k_is); (case c => k_is); (case k => k_is))
    case h_is_pair => (refine' Fb.fnm ?a (Fb.fnk ?l ?c ?k); (case a => k_is); (case l => k_is); (case c => k_is); (case k => k_is))
    case h_order_from => (refine' Fb.fnm ?a (Fb.fnk ?l ?c ?k); (case a => k_is); (case l => k_is); (case c => k_is); (case k => k_is))
    case h__law_cell_at => (refine' Fb.fnm ?a (Fb.fnk ?l ?c ?k); (case a => k_is); (case l => k_is); (case c => k_is); (case k => k_is))
    case h__law_well => (refine' Fb.fnm ?a (Fb.fnk ?l ?c ?k); (case a => k_is); (case l => k_is); (case c => k_is); (case k => k_is))
    case h__law_draw => (refine' Fb.fnm ?a (Fb.fnk ?l ?c ?k); (case a => k_is); (case l => k_is); (case c => k_is); (case k => k_is))
    case h__law_one => (refine' Fb.fnm ?a (Fb.fnk ?l ?c ?k); (case a => k_is); (case l => k_is); (case c => k_is); (case k => k_is))
    case h__law_names => (refine' Fb.fnm ?a (Fb.fnk ?l ?c ?k); (case a => k_is); (case l => k_is); (case c => k_is); (case k => k_is))
    case h__law_pairs => (refine' Fb.fnm ?a (Fb.fnk ?l ?c ?k); (case a => k_is); (case l => k_is); (case c => k_is); (case k => k_is))
    case h__law_beneath => (refine' Fb.fnm ?a (Fb.fnk ?l ?c ?k); (case a => k_is); (case l => k_is); (case c => k_is); (case k => k_is))
    case h__law_some => (refine' Fb.fnm ?a (Fb.fnk ?l ?c ?k); (case a => k_is); (case l => k_is); (case c => k_is); (case k => k_is))
    case h__law_great => (refine' Fb.fnm ?a (Fb.fnk ?l ?c ?k); (case a => k_is); (case l => k_is); (case c => k_is); (case k => k_is))
    case h__law_counts => (refine' Fb.fnm ?a (Fb.fnk ?l ?c ?k); (case a => k_is); (case l => k_is); (case c => k_is); (case k => k_is))
    case h__law_product => (refine' Fb.fnm ?a (Fb.fnk ?l ?c ?k); (case a => k_is); (case l => k_is); (case c => k_is); (case k => k_is))
    case h__law_number => (refine' Fb.fnm ?a (Fb.fnk ?l ?c ?k); (case a => k_is); (case l => k_is); (case c => k_is); (case k => k_is))
    case h__law_some_row => (refine' Fb.fnm ?a (Fb.fnk ?l ?c ?k); (case a => k_is); (case l => k_is); (case c => k_is); (case k => k_is))
    case h__law_next_right => (refine' Fb.fnm ?a (Fb.fnk ?l ?c ?k); (case a => k_is); (case l => k_is); (case c => k_is); (case k => k_is))
    case h__law_walked => (refine' Fb.fnm ?a (Fb.fnk ?l ?c ?k); (case a => k_is); (case l => k_is); (case c => k_is); (case k => k_is))
    case h_law => (refine' Fb.fnm ?a (Fb.fnk ?l ?c ?k); (case a => k_is); (case l => k_is); (case c => k_is); (case k => k_is))
    case h_Fold => (refine' Fb.clFold ?nc ?pg ?hd ?po ?sa ?mk ?kc (Fb.mtk ?a0 ?i0 (Fb.fnk ?l0 ?c0 ?k0)) (Fb.mtk ?a1 ?i1 (Fb.fnk ?l1 ?c1 ?k1)) (Fb.mtk ?a2 ?i2 (Fb.fnk ?l2 ?c2 ?k2)) (Fb.mtk ?a3 ?i3 (Fb.fnk ?l3 ?c3 ?k3)) (Fb.mtk ?a4 ?i4 (Fb.fnk ?l4 ?c4 ?k4)) ?n_shape ?n_held ?n_roots; (case nc => k_is); (case pg => k_is); (case hd => k_is); (case po => k_is); (case sa => k_is); (case mk => k_is); (case kc => k_is); (case a0 => k_is); (case i0 => k_is); (case l0 => k_is); (case c0 => k_is); (case k0 => k_is); (case a1 => k_is); (case i1 => k_is); (case l1 => k_is); (case c1 => k_is); (case k1 => k_is); (case a2 => k_is); (case i2 => k_is); (case l2 => k_is); (case c2 => k_is); (case k2 => k_is); (case a3 => k_is); (case i3 => k_is); (case l3 => k_is); (case c3 => k_is); (case k3 => k_is); (case a4 => k_is); (case i4 => k_is); (case l4 => k_is); (case c4 => k_is); (case k4 => k_is); (case n_shape => k_is); (case n_held => k_is); (case n_roots => k_is))
    case h_Pool => (refine' Fb.clPool ?nc ?pg ?hd ?po ?sa ?mk ?kc (Fb.mtk ?a0 ?i0 (Fb.fnk ?l0 ?c0 ?k0)) (Fb.mtk ?a1 ?i1 (Fb.fnk ?l1 ?c1 ?k1)) (Fb.mtk ?a2 ?i2 (Fb.fnk ?l2 ?c2 ?k2)) ?n_shape ?n_numbers ?n_held; (case nc => k_is); (case pg => k_is); (case hd => k_is); (case po => k_is); (case sa => k_is); (case mk => k_is); (case kc => k_is); (case a0 => k_is); (case i0 => k_is); (case l0 => k_is); (case c0 => k_is); (case k0 => k_is); (case a1 => k_is); (case i1 => k_is); (case l1 => k_is); (case c1 => k_is); (case k1 => k_is); (case a2 => k_is); (case i2 => k_is); (case l2 => k_is); (case c2 => k_is); (case k2 => k_is); (case n_shape => k_is); (case n_numbers => k_is); (case n_held => k_is))
    case h_Finder => (refine' Fb.clFinder ?nc ?pg ?hd ?po ?sa ?mk ?kc (Fb.mtk ?a0 ?i0 (Fb.fnk ?l0 ?c0 ?k0)) (Fb.mtk ?a1 ?i1 (Fb.fnk ?l1 ?c1 ?k1)) (Fb.mtk ?a2 ?i2 (Fb.fnk ?l2 ?c2 ?k2)) (Fb.mtk ?a3 ?i3 (Fb.fnk ?l3 ?c3 ?k3)) ?n_looked_at ?n_many; (case nc => k_is); (case pg => k_is); (case hd => k_is); (case po => k_is); (case sa => k_is); (case mk => k_is); (case kc => k_is); (case a0 => k_is); (case i0 => k_is); (case l0 => k_is); (case c0 => k_is); (case k0 => k_is); (case a1 => k_is); (case i1 => k_is); (case l1 => k_is); (case c1 => k_is); (case k1 => k_is); (case a2 => k_is); (case i2 => k_is); (case l2 => k_is); (case c2 => k_is); (case k2 => k_is); (case a3 => k_is); (case i3 => k_is); (case l3 => k_is); (case c3 => k_is); (case k3 => k_is); (case n_looked_at => k_is); (case n_many => k_is))
    case h_Tree => (refine' Fb.clTree ?nc ?pg ?hd ?po ?sa ?mk ?kc (Fb.mtk ?a0 ?i0 (Fb.fnk ?l0 ?c0 ?k0)) (Fb.mtk ?a1 ?i1 (Fb.fnk ?l1 ?c1 ?k1)) (Fb.mtk ?a2 ?i2 (Fb.fnk ?l2 ?c2 ?k2)) (Fb.mtk ?a3 ?i3 (Fb.fnk ?l3 ?c3 ?k3)) (Fb.mtk ?a4 ?i4 (Fb.fnk ?l4 ?c4 ?k4)) (Fb.mtk ?a5 ?i5 (Fb.fndk ?l5 ?c5 ?k5 ?t5 ?r5)) ?n_overs ?n_kids ?n_order; (case nc => k_is); (case pg => k_is); (case hd => k_is); (case po => k_is); (case sa => k_is); (case mk => k_is); (case kc => k_is); (case a0 => k_is); (case i0 => k_is); (case l0 => k_is); (case c0 => k_is); (case k0 => k_is); (case a1 => k_is); (case i1 => k_is); (case l1 => k_is); (case c1 => k_is); (case k1 => k_is); (case a2 => k_is); (case i2 => k_is); (case l2 => k_is); (case c2 => k_is); (case k2 => k_is); (case a3 => k_is); (case i3 => k_is); (case l3 => k_is); (case c3 => k_is); (case k3 => k_is); (case a4 => k_is); (case i4 => k_is); (case l4 => k_is); (case c4 => k_is); (case k4 => k_is); (case a5 => k_is); (case i5 => k_is); (case l5 => k_is); (case c5 => k_is); (case k5 => k_is); (case t5 => k_is); (case r5 => exact rfl); (case n_overs => k_is); (case n_kids => k_is); (case n_order => k_is))
    case h_Walker => (refine' Fb.clWalker ?nc ?pg ?hd ?po ?sa ?mk ?kc (Fb.mtk ?a0 ?i0 (Fb.fnk ?l0 ?c0 ?k0)) (Fb.mtk ?a1 ?i1 (Fb.fnk ?l1 ?c1 ?k1)) (Fb.mtk ?a2 ?i2 (Fb.fnk ?l2 ?c2 ?k2)) (Fb.mtk ?a3 ?i3 (Fb.fnk ?l3 ?c3 ?k3)) (Fb.mtk ?a4 ?i4 (Fb.fndk ?l4 ?c4 ?k4 ?t4 ?r4)) (Fb.mtk ?a5 ?i5 (Fb.fndk ?l5 ?c5 ?k5 ?t5 ?r5)) (Fb.mtk ?a6 ?i6 (Fb.fnk ?l6 ?c6 ?k6)) ?n_walked ?n_standing; (case nc => k_is); (case pg => k_is); (case hd => k_is); (case po => k_is); (case sa => k_is); (case mk => k_is); (case kc => k_is); (case a0 => k_is); (case i0 => k_is); (case l0 => k_is); (case c0 => k_is); (case k0 => k_is); (case a1 => k_is); (case i1 => k_is); (case l1 => k_is); (case c1 => k_is); (case k1 => k_is); (case a2 => k_is); (case i2 => k_is); (case l2 => k_is); (case c2 => k_is); (case k2 => k_is); (case a3 => k_is); (case i3 => k_is); (case l3 => k_is); (case c3 => k_is); (case k3 => k_is); (case a4 => k_is); (case i4 => k_is); (case l4 => k_is); (case c4 => k_is); (case k4 => k_is); (case t4 => k_is); (case r4 => exact ⟨_, rfl⟩); (case a5 => k_is); (case i5 => k_is); (case l5 => k_is); (case c5 => k_is); (case k5 => k_is); (case t5 => k_is); (case r5 => exact ⟨_, rfl⟩); (case a6 => k_is); (case i6 => k_is); (case l6 => k_is); (case c6 => k_is); (case k6 => k_is); (case n_walked => k_is); (case n_standing => k_is))
    case z_len => k_is
    case z_int => k_is
    case z_max => k_is
    case z_min => k_is
    case z_sum => k_is
    case z_all => k_is
    case z_sorted => k_is
    case z_isinstance => k_is
    case z_tuple => k_is
    case z_list => k_is
    case z_dict => k_is
    case z_range => k_is
    case z_enumerate => k_is
    case z_zip => k_is
    case z_reversed => k_is
    case z_str => k_is
    case z_bool => k_is
    case g_LETTERS => (refine' Fb.glk ?a ?r; (case a => k_is); (case r => exact ⟨_, rfl⟩))
    case g_LONGEST_NAME => (refine' Fb.glk ?a ?r; (case a => k_is); (case r => exact ⟨_, rfl⟩))
    case g_MOST_COLUMNS => (refine' Fb.glk ?a ?r; (case a => k_is); (case r => exact ⟨_, rfl⟩))
