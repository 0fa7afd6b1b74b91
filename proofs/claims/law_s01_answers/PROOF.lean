import PyProof.Rows.All
import Wide.All
import OpenK.AllK
import Wide.FinOn
import Open.SpecLaws
import KE.OsGo
import KE.KDictCopyH
import KE.KDictPairs
import KE.KDictKeyed
import PyProof.DictMoreH
import KE.KDictSum
import HandS.ForSpec
import HandS.ForMost
import HandS.ExcInit
import HandS.ExcField
import HandS.TupSets
import HandS.DictTup
import HandS.More
import HandS.Strs
import HandS.SetFor
import HandS.WideBits
import HandS.TryMany
import HandS.Evl
import HandS.Replace
import HandS.TupLen
import HandS.SortOrd
import HandS.SortInts
import PySem.Challenge.RW_keptready_s01_answers
import KE.KDictWalk
import HandS.Walk
import HandS.Codes
import KE.KEqSeq
set_option Elab.async false
set_option linter.all false
section
set_option autoImplicit false
/-! The plain law, part A: groups, put in by hand and by the specification. -/
namespace KR
open Vamvsa (Group putGroup collect lexLess)

theorem lex_irrefl : ∀ a : List Nat, lexLess a a = false
  | [] => rfl
  | x :: r => by
    have ih := lex_irrefl r
    simp [lexLess, ih]
theorem lex_trans : ∀ {a b c : List Nat}, lexLess a b = true → lexLess b c = true → lexLess a c = true
  | [], b, c, h, _ => by cases b <;> simp [lexLess] at h
  | x :: r, [], c, h, _ => by simp [lexLess] at h
  | x :: r, y :: s, [], _, h => by simp [lexLess] at h
  | x :: r, y :: s, z :: t, h, g => by
    simp only [lexLess, Bool.or_eq_true, decide_eq_true_eq, Bool.and_eq_true, beq_iff_eq] at h g ⊢
    rcases h with h | ⟨h, h'⟩ <;> rcases g with g | ⟨g, g'⟩
    · left; omega
    · left; omega
    · left; omega
    · right; exact ⟨by omega, lex_trans h' g'⟩
theorem lex_tri : ∀ {a b : List Nat}, a.length = b.length → a ≠ b → lexLess a b = false → lexLess b a = true
  | [], [], _, h, _ => absurd rfl h
  | [], _ :: _, h, _, _ => by simp at h
  | _ :: _, [], h, _, _ => by simp at h
  | x :: r, y :: s, h, ne, g => by
    simp only [lexLess, Bool.or_eq_false_iff, decide_eq_false_iff_not, Bool.and_eq_false_iff, beq_eq_false_iff_ne] at g
    simp only [lexLess, Bool.or_eq_true, decide_eq_true_eq, Bool.and_eq_true, beq_iff_eq]
    obtain ⟨g1, g2⟩ := g
    by_cases e : x = y
    · subst e
      right
      refine ⟨rfl, lex_tri (by simpa using h) (fun z => ne (by rw [z])) ?_⟩
      rcases g2 with g2 | g2
      · exact absurd rfl g2
      · exact g2
    · left; omega
theorem lex_asymm {a b : List Nat} (h : lexLess a b = true) : lexLess b a = false := by
  cases e : lexLess b a with
  | false => rfl
  | true =>
    have z := lex_trans h e
    rw [lex_irrefl] at z
    cases z
theorem lex_ne {a b : List Nat} (h : lexLess a b = true) : a ≠ b := fun e => by
  subst e
  rw [lex_irrefl] at h
  cases h

/-- in order of the keys, all of one length -/
structure SL (w : Nat) (l : List Group) : Prop where
  len : ∀ x ∈ l, x.key.length = w
  srt : l.Pairwise (fun x y => lexLess x.key y.key = true)
theorem SL.nil {w : Nat} : SL w [] := ⟨fun _ h => (List.not_mem_nil h).elim, List.Pairwise.nil⟩
theorem SL.tail {w : Nat} {x : Group} {l : List Group} (h : SL w (x :: l)) : SL w l :=
  ⟨fun y hy => h.len y (List.mem_cons_of_mem _ hy), (List.pairwise_cons.mp h.srt).2⟩
theorem SL.head {w : Nat} {x : Group} {l : List Group} (h : SL w (x :: l)) : ∀ y ∈ l, lexLess x.key y.key = true := (List.pairwise_cons.mp h.srt).1
theorem SL.cons {w : Nat} {x : Group} {l : List Group} (hx : x.key.length = w) (hl : SL w l) (h : ∀ y ∈ l, lexLess x.key y.key = true) : SL w (x :: l) :=
  ⟨fun y hy => by rcases List.mem_cons.mp hy with e | e; exact e ▸ hx; exact hl.len y e, List.pairwise_cons.mpr ⟨h, hl.srt⟩⟩
theorem mem_put {x z : Group} : ∀ {l : List Group}, z ∈ putGroup x l → z.key = x.key ∨ z ∈ l
  | [], h => by
    have e : z = x := by simpa [putGroup] using h
    exact .inl (by rw [e])
  | y :: r, h => by
    unfold putGroup at h
    split at h
    · rename_i e
      rcases List.mem_cons.mp h with g | g
      · exact .inl (by rw [g]; exact e.symm)
      · exact .inr (List.mem_cons_of_mem _ g)
    · split at h
      · rcases List.mem_cons.mp h with g | g
        · exact .inl (by rw [g])
        · exact .inr g
      · rcases List.mem_cons.mp h with g | g
        · exact .inr (by rw [g]; exact List.mem_cons_self)
        · rcases mem_put g with q | q
          · exact .inl q
          · exact .inr (List.mem_cons_of_mem _ q)
theorem SL.put {w : Nat} {x : Group} (hx : x.key.length = w) : ∀ {l : List Group}, SL w l → SL w (putGroup x l)
  | [], _ => SL.cons hx SL.nil (fun _ h => (List.not_mem_nil h).elim)
  | y :: r, h => by
    unfold putGroup
    split
    · rename_i e
      exact SL.cons (h.len y List.mem_cons_self) h.tail h.head
    · rename_i e
      split
      · rename_i g
        refine SL.cons hx h fun z hz => ?_
        rcases List.mem_cons.mp hz with q | q
        · rw [q]; exact g
        · exact lex_trans g (h.head z q)
      · rename_i g
        have g' : lexLess y.key x.key = true := lex_tri (by rw [hx, h.len y List.mem_cons_self]) e (by simpa using g)
        refine SL.cons (h.len y List.mem_cons_self) (SL.put hx h.tail) fun z hz => ?_
        rcases mem_put hz with q | q
        · rw [q]; exact g'
        · exact h.head z q
/-- two groups put in, in either order -/
theorem put_comm {w : Nat} {x y : Group} (hx : x.key.length = w) (hy : y.key.length = w) : ∀ {l : List Group}, SL w l → putGroup x (putGroup y l) = putGroup y (putGroup x l)
  | [], _ => by
    unfold putGroup
    by_cases e : x.key = y.key
    · simp only [putGroup, e, if_true]
      rw [Int.add_comm, Nat.add_comm]
    · have e' : ¬ y.key = x.key := fun z => e z.symm
      simp only [putGroup, e, e', if_false]
      cases c : lexLess x.key y.key with
      | true => simp [lex_asymm c]
      | false => simp [lex_tri (hx.trans hy.symm) e c]
  | z :: r, h => by
    have hz := h.len z List.mem_cons_self
    by_cases ez : x.key = z.key
    · by_cases ey : y.key = z.key
      · simp only [putGroup, ez, ey, if_true]
        congr 2
        · omega
        · omega
      · have exy : ¬ x.key = y.key := fun q => ey (q.symm.trans ez)
        have eyx : ¬ y.key = x.key := fun q => exy q.symm
        cases c : lexLess y.key z.key with
        | true =>
          have c' : lexLess y.key x.key = true := by rw [ez]; exact c
          simp [putGroup, ez, ey, exy, c, lex_asymm c]
          exact fun q => absurd q.symm ey
        | false =>
          simp [putGroup, ez, ey, c]
    · by_cases ey : y.key = z.key
      · have exy : ¬ x.key = y.key := fun q => ez (q.trans ey)
        cases c : lexLess x.key z.key with
        | true =>
          simp [putGroup, ez, ey, c, lex_asymm c]
          exact fun q => absurd q.symm ez
        | false =>
          simp [putGroup, ez, ey, c]
      · by_cases exy : x.key = y.key
        · cases c : lexLess x.key z.key with
          | true =>
            have c' : lexLess y.key z.key = true := by rw [← exy]; exact c
            simp only [putGroup, ez, ey, if_false, c, c', if_true, exy]
            rw [Int.add_comm, Nat.add_comm]
          | false =>
            have c' : lexLess y.key z.key = false := by rw [← exy]; exact c
            simp only [putGroup, ez, ey, if_false, c, c', Bool.false_eq_true]
            rw [put_comm hx hy h.tail]
        · have eyx : ¬ y.key = x.key := fun q => exy q.symm
          cases cx : lexLess x.key z.key with
          | true =>
            cases cy : lexLess y.key z.key with
            | true =>
              cases c : lexLess x.key y.key with
              | true => simp [putGroup, ez, ey, exy, eyx, cx, cy, c, lex_asymm c]
              | false => simp [putGroup, ez, ey, exy, eyx, cx, cy, c, lex_tri (hx.trans hy.symm) exy c]
            | false =>
              have cyx : lexLess y.key x.key = false := by
                cases c : lexLess y.key x.key with
                | false => rfl
                | true => rw [lex_trans c cx] at cy; cases cy
              simp [putGroup, ez, ey, exy, eyx, cx, cy, cyx]
          | false =>
            cases cy : lexLess y.key z.key with
            | true =>
              have cxy : lexLess x.key y.key = false := by
                cases c : lexLess x.key y.key with
                | false => rfl
                | true => rw [lex_trans c cy] at cx; cases cx
              simp [putGroup, ez, ey, exy, eyx, cx, cy, cxy]
            | false =>
              simp only [putGroup, ez, ey, if_false, cx, cy, Bool.false_eq_true]
              rw [put_comm hx hy h.tail]
def putAll (l : List Group) (acc : List Group) : List Group := l.foldl (fun r x => putGroup x r) acc
theorem SL.putAll {w : Nat} : ∀ {l acc : List Group}, (∀ x ∈ l, x.key.length = w) → SL w acc → SL w (putAll l acc)
  | [], _, _, h => h
  | x :: r, acc, hl, h => SL.putAll (l := r) (fun y hy => hl y (List.mem_cons_of_mem _ hy)) (h.put (hl x List.mem_cons_self))
theorem SL.collect {w : Nat} {l : List Group} (h : ∀ x ∈ l, x.key.length = w) : SL w (collect l) := SL.putAll h SL.nil
/-- the order in which groups are put in is nothing -/
theorem putAll_perm {w : Nat} {l m : List Group} (p : l.Perm m) : (∀ x ∈ l, x.key.length = w) → ∀ acc, SL w acc → putAll l acc = putAll m acc := by
  induction p with
  | nil => intro _ _ _; rfl
  | cons x p ih => intro h acc ha; exact ih (fun y hy => h y (List.mem_cons_of_mem _ hy)) _ (ha.put (h x List.mem_cons_self))
  | swap x y l =>
    intro h acc ha
    show putAll l (putGroup x (putGroup y acc)) = putAll l (putGroup y (putGroup x acc))
    rw [put_comm (h x (by simp)) (h y (by simp)) ha]
  | trans p q ih1 ih2 =>
    intro h acc ha
    rw [ih1 h acc ha, ih2 (fun x hx => h x (p.mem_iff.mpr hx)) acc ha]
theorem collect_perm {w : Nat} {l m : List Group} (p : l.Perm m) (h : ∀ x ∈ l, x.key.length = w) : collect l = collect m := putAll_perm p h [] SL.nil
theorem collect_snoc (l : List Group) (x : Group) : collect (l ++ [x]) = putGroup x (collect l) := by
  unfold collect
  rw [List.foldl_append]
  rfl

/-! ### the dict of the program: groups in the order in which they came -/
def findL (l : List Group) (k : List Nat) : Option Group := l.find? fun x => decide (x.key = k)
def putL (l : List Group) (x : Group) : List Group := if l.any (fun y => decide (y.key = x.key)) = true then l.map (fun y => if y.key = x.key then x else y) else l ++ [x]
def dropL (l : List Group) (k : List Nat) : List Group := l.filter fun x => !decide (x.key = k)
def oldL (l : List Group) (k : List Nat) : Group := (findL l k).getD ⟨k, 0, 0⟩
def newG (l : List Group) (k : List Nat) (s n : Int) : Group := ⟨k, (oldL l k).sum + s, (((oldL l k).n : Int) + n).toNat⟩
/-- with_more -/
def wm (l : List Group) (k : List Nat) (s n : Int) : List Group :=
  if (newG l k s n).n = 0 then dropL (putL l (newG l k s n)) k else putL l (newG l k s n)
def Nk (l : List Group) : Prop := (l.map (·.key)).Nodup

theorem nk_key {l : List Group} (h : Nk l) : ∀ {x y : Group}, x ∈ l → y ∈ l → x.key = y.key → x = y := by
  induction l with
  | nil => intro x y hx; exact (List.not_mem_nil hx).elim
  | cons z r ih =>
    have h' : (z.key :: r.map (·.key)).Nodup := h
    obtain ⟨h1, h2⟩ := List.nodup_cons.mp h'
    intro x y hx hy e
    rcases List.mem_cons.mp hx with ex | hx <;> rcases List.mem_cons.mp hy with ey | hy
    · rw [ex, ey]
    · rw [ex] at e
      exact (h1 (List.mem_map.mpr ⟨y, hy, e.symm⟩)).elim
    · rw [ey] at e
      exact (h1 (List.mem_map.mpr ⟨x, hx, e⟩)).elim
    · exact ih h2 hx hy e
theorem SL.nk {w : Nat} {l : List Group} (h : SL w l) : Nk l := by
  have q : l.Pairwise (fun x y => x.key ≠ y.key) := h.srt.imp fun e => lex_ne e
  exact List.pairwise_map.mpr q
theorem nk_perm {l m : List Group} (p : l.Perm m) (h : Nk m) : Nk l := (p.map (fun x : Group => x.key)).nodup_iff.mpr h
theorem findL_mem {l : List Group} {k : List Nat} {x : Group} (h : findL l k = some x) : x ∈ l ∧ x.key = k := by
  have a := List.mem_of_find?_eq_some h
  have b := List.find?_some h
  exact ⟨a, of_decide_eq_true b⟩
theorem findL_none {l : List Group} {k : List Nat} (h : findL l k = none) : ∀ x ∈ l, x.key ≠ k := fun x hx e => by
  have := List.find?_eq_none.mp h x hx
  exact this (decide_eq_true e)
theorem findL_of {l : List Group} {x : Group} (h : Nk l) (hx : x ∈ l) : findL l x.key = some x := by
  cases e : findL l x.key with
  | none => exact absurd rfl (findL_none e x hx)
  | some y =>
    obtain ⟨h1, h2⟩ := findL_mem e
    rw [nk_key h h1 hx h2]
/-- put into a sorted list, told as the dict's store -/
theorem put_there {w : Nat} {x y : Group} : ∀ {l : List Group}, SL w l → y ∈ l → y.key = x.key → putGroup x l = l.map (fun z => if z.key = x.key then ⟨z.key, z.sum + x.sum, z.n + x.n⟩ else z)
  | [], _, h, _ => (List.not_mem_nil h).elim
  | z :: r, h, hy, e => by
    unfold putGroup
    by_cases ez : x.key = z.key
    · rw [if_pos ez, List.map_cons, if_pos ez.symm]
      congr 1
      symm
      have : ∀ u ∈ r, (if u.key = x.key then (⟨u.key, u.sum + x.sum, u.n + x.n⟩ : Group) else u) = u := fun u hu => by
        rw [if_neg]
        intro q
        exact lex_ne (h.head u hu) (by rw [q, ez])
      rw [List.map_congr_left this, List.map_id']
    · have hy' : y ∈ r := by
        rcases List.mem_cons.mp hy with q | q
        · exact absurd (by rw [← e, q]) ez
        · exact q
      have c : lexLess x.key z.key = false := by
        have := h.head y hy'
        rw [e] at this
        exact lex_asymm this
      rw [if_neg ez, c, if_neg Bool.false_ne_true, List.map_cons, if_neg (fun q => ez q.symm), put_there h.tail hy' e]
theorem put_not {x : Group} : ∀ {l : List Group}, (∀ y ∈ l, y.key ≠ x.key) → (putGroup x l).Perm (x :: l)
  | [], _ => List.Perm.refl _
  | z :: r, h => by
    unfold putGroup
    rw [if_neg fun q => h z List.mem_cons_self q.symm]
    split
    · exact List.Perm.refl _
    · exact ((put_not fun y hy => h y (List.mem_cons_of_mem _ hy)).cons z).trans (List.Perm.swap x z r)
theorem any_find {l : List Group} {k : List Nat} : l.any (fun y => decide (y.key = k)) = (findL l k).isSome := by
  unfold findL
  induction l with
  | nil => rfl
  | cons x r ih =>
    rw [List.any_cons, List.find?_cons, ih]
    cases decide (x.key = k) <;> rfl
/-- with_more of more than nothing is putGroup -/
theorem wm_put {w : Nat} {l m : List Group} {k : List Nat} {s : Int} {n : Nat} (p : l.Perm m) (h : SL w m) (hn : 0 < n) : (wm l k s (n : Int)).Perm (putGroup ⟨k, s, n⟩ m) := by
  have nl := nk_perm p h.nk
  have n0 : (newG l k s (n : Int)).n ≠ 0 := by
    show (((oldL l k).n : Int) + (n : Int)).toNat ≠ 0
    omega
  unfold wm
  rw [if_neg n0]
  unfold putL
  rw [show (newG l k s (n : Int)).key = k from rfl, any_find]
  cases e : findL l k with
  | none =>
    have ne := findL_none e
    rw [show (none : Option Group).isSome = false from rfl, if_neg Bool.false_ne_true]
    have en : newG l k s (n : Int) = ⟨k, s, n⟩ := by
      unfold newG oldL
      rw [e]
      show (⟨k, 0 + s, (0 + (n : Int)).toNat⟩ : Group) = ⟨k, s, n⟩
      rw [Int.zero_add, Int.zero_add, Int.toNat_natCast]
    rw [en]
    have q := put_not (x := ⟨k, s, n⟩) (l := m) fun y hy => ne y (p.mem_iff.mpr hy)
    exact (List.perm_append_comm (l₁ := l) (l₂ := [⟨k, s, n⟩])).trans ((p.cons _).trans q.symm)
  | some y =>
    obtain ⟨hy, ey⟩ := findL_mem e
    rw [show (some y).isSome = true from rfl, if_pos rfl]
    rw [put_there (x := ⟨k, s, n⟩) h (p.mem_iff.mp hy) ey]
    have en : newG l k s (n : Int) = ⟨k, y.sum + s, y.n + n⟩ := by
      unfold newG oldL
      rw [e]
      show (⟨k, y.sum + s, ((y.n : Int) + (n : Int)).toNat⟩ : Group) = ⟨k, y.sum + s, y.n + n⟩
      congr 1
    have em : l.map (fun z => if z.key = k then newG l k s (n : Int) else z) = l.map (fun z => if z.key = k then (⟨z.key, z.sum + s, z.n + n⟩ : Group) else z) := by
      refine List.map_congr_left fun z hz => ?_
      by_cases c : z.key = k
      · rw [if_pos c, if_pos c, en]
        have : z = y := nk_key nl hz hy (c.trans ey.symm)
        rw [this, ey]
      · rw [if_neg c, if_neg c]
    rw [em]
    exact p.map _
/-- a row taken -/
def takeG (k : List Nat) (m : Int) (l : List Group) : List Group := (l.map fun x => if x.key = k then { x with sum := x.sum - m, n := x.n - 1 } else x).filter fun x => decide (0 < x.n)
theorem wm_take {l m : List Group} {k : List Nat} {s : Int} (p : l.Perm m) (nm : Nk m) (pos : ∀ x ∈ m, 0 < x.n) (there : ∃ x ∈ m, x.key = k) : (wm l k (-1 * s) (-1)).Perm (takeG k s m) := by
  have nl := nk_perm p nm
  obtain ⟨y, hym, ey⟩ := there
  have hy : y ∈ l := p.mem_iff.mpr hym
  have e : findL l k = some y := by rw [← ey]; exact findL_of nl hy
  have ypos := pos y hym
  have en : newG l k (-1 * s) (-1) = ⟨k, y.sum - s, y.n - 1⟩ := by
    unfold newG oldL
    rw [e]
    show (⟨k, y.sum + -1 * s, ((y.n : Int) + -1).toNat⟩ : Group) = ⟨k, y.sum - s, y.n - 1⟩
    congr 1
    · omega
    · omega
  have ep : putL l (newG l k (-1 * s) (-1)) = l.map (fun x => if x.key = k then ({ x with sum := x.sum - s, n := x.n - 1 } : Group) else x) := by
    unfold putL
    rw [show (newG l k (-1 * s) (-1)).key = k from rfl, any_find, e]
    rw [show (some y).isSome = true from rfl, if_pos rfl]
    refine List.map_congr_left fun z hz => ?_
    by_cases c : z.key = k
    · rw [if_pos c, if_pos c, en]
      have : z = y := nk_key nl hz hy (c.trans ey.symm)
      rw [this, ey]
    · rw [if_neg c, if_neg c]
  unfold wm
  rw [ep, en]
  refine List.Perm.trans ?_ ((p.map _).filter _)
  have keyEq : ∀ z : Group, (if z.key = k then ({ z with sum := z.sum - s, n := z.n - 1 } : Group) else z).key = z.key := fun z => by
    by_cases c : z.key = k
    · rw [if_pos c]
    · rw [if_neg c]
  show (if y.n - 1 = 0 then dropL _ k else _).Perm _
  by_cases c1 : y.n - 1 = 0
  · rw [if_pos c1]
    unfold dropL
    refine List.Perm.of_eq (List.filter_congr fun z hz => ?_)
    obtain ⟨u, hu, rfl⟩ := List.mem_map.mp hz
    rw [keyEq]
    by_cases c : u.key = k
    · have : u = y := nk_key nl hu hy (c.trans ey.symm)
      subst this
      rw [if_pos c]
      simp [c]
      omega
    · rw [if_neg c]
      have := pos u (p.mem_iff.mp hu)
      simp [c, this]
  · rw [if_neg c1]
    refine List.Perm.of_eq (List.filter_eq_self.mpr fun z hz => ?_).symm
    obtain ⟨u, hu, rfl⟩ := List.mem_map.mp hz
    by_cases c : u.key = k
    · have : u = y := nk_key nl hu hy (c.trans ey.symm)
      subst this
      rw [if_pos c]
      simp
      omega
    · rw [if_neg c]
      have := pos u (p.mem_iff.mp hu)
      simp [this]
end KR
end
section
set_option autoImplicit false
set_option maxRecDepth 100000
/-! Tuples of at most four digits hash apart. -/
namespace KR
def stepH (acc : Nat) (d : Nat) : Nat :=
  let a := (acc + d * 14029467366897019727) % 18446744073709551616
  let b := (a * 2147483648) % 18446744073709551616 + a / 8589934592
  (b * 11400714785074694791) % 18446744073709551616
def startH : Nat := 2870177450012600261
/-- a number, reckoned out before it is used -/
def force {B : Type} (v : Nat) (f : Nat → B) : B := match v with
  | 0 => f 0
  | n + 1 => f (n + 1)
theorem force_eq {B : Type} (v : Nat) (f : Nat → B) : force v f = f v := by cases v <;> rfl
def stepF {B : Type} (acc d : Nat) (k : Nat → B) : B :=
  force ((acc + d * 14029467366897019727) % 18446744073709551616) fun a =>
  force ((a * 2147483648) % 18446744073709551616 + a / 8589934592) fun b =>
  force ((b * 11400714785074694791) % 18446744073709551616) k
theorem stepF_eq {B : Type} (acc d : Nat) (k : Nat → B) : stepF acc d k = k (stepH acc d) := by
  unfold stepF
  rw [force_eq, force_eq, force_eq]
  rfl
/-- all states behind so many digits -/
def tenF (a : Nat) (r : List Nat) : List Nat :=
  stepF a 0 fun x0 => stepF a 1 fun x1 => stepF a 2 fun x2 => stepF a 3 fun x3 => stepF a 4 fun x4 => stepF a 5 fun x5 => stepF a 6 fun x6 => stepF a 7 fun x7 => stepF a 8 fun x8 => stepF a 9 fun x9 =>
    x0 :: x1 :: x2 :: x3 :: x4 :: x5 :: x6 :: x7 :: x8 :: x9 :: r
def next10 : List Nat → List Nat
  | [] => []
  | a :: r => tenF a (next10 r)
theorem next10_eq : ∀ l, next10 l = l.flatMap fun a => [stepH a 0, stepH a 1, stepH a 2, stepH a 3, stepH a 4, stepH a 5, stepH a 6, stepH a 7, stepH a 8, stepH a 9]
  | [] => rfl
  | a :: r => by
    show tenF a (next10 r) = _
    unfold tenF
    simp only [stepF_eq]
    rw [next10_eq r]
    rfl
def states : Nat → List Nat
  | 0 => [startH]
  | n + 1 => next10 (states n)
def mapF (f : Nat → Nat) : List Nat → List Nat
  | [] => []
  | x :: r => force (f x) fun y => y :: mapF f r
theorem mapF_eq (f : Nat → Nat) : ∀ l, mapF f l = l.map f
  | [] => rfl
  | x :: r => by
    show force (f x) (fun y => y :: mapF f r) = _
    rw [force_eq, mapF_eq f r]
    rfl
def evens (l : List Nat) : List Nat := (l.filter fun v => Nat.beq (v % 2) 0).map (· / 2)
def odds (l : List Nat) : List Nat := (l.filter fun v => Nat.beq (v % 2) 1).map (· / 2)
/-- parted by the last bit, halved -/
def splitF : List Nat → List Nat → List Nat → (List Nat → List Nat → Bool) → Bool
  | [], e, o, k => k e o
  | x :: r, e, o, k => force (x / 2) fun h => bif Nat.beq (x % 2) 0 then splitF r (h :: e) o k else splitF r e (h :: o) k
theorem splitF_eq : ∀ (l e o : List Nat) (k : List Nat → List Nat → Bool), splitF l e o k = k ((evens l).reverse ++ e) ((odds l).reverse ++ o)
  | [], e, o, k => rfl
  | x :: r, e, o, k => by
    show force (x / 2) _ = _
    rw [force_eq, splitF_eq r, splitF_eq r]
    unfold evens odds
    rw [List.filter_cons, List.filter_cons]
    rcases Nat.mod_two_eq_zero_or_one x with z | z
    · rw [z]
      simp
    · rw [z]
      simp
      rfl
def apart : Nat → List Nat → Bool
  | 0, _ => false
  | n + 1, l => match l with
    | [] => true
    | [_] => true
    | l => splitF l [] [] fun e o => apart n e && apart n o
theorem half_inj {v u : Nat} (h : v % 2 = u % 2) (e : v / 2 = u / 2) : v = u := by omega
theorem pairwise_split {P Q : Nat → Bool} (hpq : ∀ v, P v = true ∨ Q v = true) (hn : ∀ u v, P u = true → Q v = true → u ≠ v) : ∀ l : List Nat, (l.filter P).Nodup → (l.filter Q).Nodup → l.Nodup
  | [], _, _ => List.nodup_nil
  | a :: r, h1, h2 => by
    rw [List.filter_cons] at h1 h2
    have hp : (r.filter P).Nodup := by
      split at h1
      · exact (List.nodup_cons.mp h1).2
      · exact h1
    have hq : (r.filter Q).Nodup := by
      split at h2
      · exact (List.nodup_cons.mp h2).2
      · exact h2
    refine List.nodup_cons.mpr ⟨fun m => ?_, pairwise_split hpq hn r hp hq⟩
    rcases hpq a with ha | ha
    · rw [if_pos ha] at h1
      exact (List.nodup_cons.mp h1).1 (List.mem_filter.mpr ⟨m, ha⟩)
    · rw [if_pos ha] at h2
      exact (List.nodup_cons.mp h2).1 (List.mem_filter.mpr ⟨m, ha⟩)
theorem nodup_of_map {f : Nat → Nat} : ∀ l : List Nat, (l.map f).Nodup → l.Nodup
  | [], _ => List.nodup_nil
  | a :: r, h => by
    have h' : (f a :: r.map f).Nodup := h
    obtain ⟨h1, h2⟩ := List.nodup_cons.mp h'
    exact List.nodup_cons.mpr ⟨fun m => h1 (List.mem_map.mpr ⟨a, m, rfl⟩), nodup_of_map r h2⟩
theorem apart_nodup : ∀ (n : Nat) (l : List Nat), apart n l = true → l.Nodup
  | 0, _, h => nomatch h
  | n + 1, l, h => by
    unfold apart at h
    split at h
    · exact List.nodup_nil
    · exact List.nodup_cons.mpr ⟨by simp, List.nodup_nil⟩
    · rw [splitF_eq, Bool.and_eq_true, List.append_nil, List.append_nil] at h
      have h1 := nodup_of_map _ ((List.reverse_perm _).nodup_iff.mp (apart_nodup n _ h.1))
      have h2 := nodup_of_map _ ((List.reverse_perm _).nodup_iff.mp (apart_nodup n _ h.2))
      refine pairwise_split (fun v => ?_) (fun u v hu hv e => ?_) l h1 h2
      · have := Nat.mod_two_eq_zero_or_one v
        rcases this with z | z
        · left; rw [z]; rfl
        · right; rw [z]; rfl
      · have a := Nat.eq_of_beq_eq_true hu
        have b := Nat.eq_of_beq_eq_true hv
        subst e
        omega
def digs : Nat → List (List Nat)
  | 0 => [[]]
  | n + 1 => (digs n).flatMap fun k => [k ++ [0], k ++ [1], k ++ [2], k ++ [3], k ++ [4], k ++ [5], k ++ [6], k ++ [7], k ++ [8], k ++ [9]]
def foldH (k : List Nat) : Nat := k.foldl stepH startH
theorem foldH_snoc (k : List Nat) (d : Nat) : foldH (k ++ [d]) = stepH (foldH k) d := by
  unfold foldH
  rw [List.foldl_append, List.foldl_cons, List.foldl_nil]
theorem states_digs : ∀ n, states n = (digs n).map foldH
  | 0 => rfl
  | n + 1 => by
    show next10 (states n) = ((digs n).flatMap _).map foldH
    rw [states_digs n, List.map_flatMap, next10_eq, List.flatMap_map]
    congr 1
    funext k
    simp only [List.map_cons, List.map_nil, foldH_snoc]
theorem ten_mem {k : List Nat} {d : Nat} (h : d < 10) : k ++ [d] ∈ [k ++ [0], k ++ [1], k ++ [2], k ++ [3], k ++ [4], k ++ [5], k ++ [6], k ++ [7], k ++ [8], k ++ [9]] := by
  have : d = 0 ∨ d = 1 ∨ d = 2 ∨ d = 3 ∨ d = 4 ∨ d = 5 ∨ d = 6 ∨ d = 7 ∨ d = 8 ∨ d = 9 := by omega
  rcases this with e | e | e | e | e | e | e | e | e | e <;> subst e <;> simp
theorem digs_mem : ∀ (n : Nat) (k : List Nat), k.length = n → (∀ d ∈ k, d < 10) → k ∈ digs n
  | 0, k, h, _ => by
    have : k = [] := List.length_eq_zero_iff.mp h
    rw [this]
    exact List.mem_singleton.mpr rfl
  | n + 1, k, h, hd => by
    have ne : k ≠ [] := fun e => by rw [e] at h; cases h
    have e := (List.dropLast_concat_getLast ne).symm
    have h1 : k.dropLast ∈ digs n := digs_mem n _ (by rw [List.length_dropLast]; omega) fun d m => hd d (List.dropLast_subset _ m)
    have h2 := hd _ (List.getLast_mem ne)
    have h3 := ten_mem (k := k.dropLast) h2
    rw [← e] at h3
    exact List.mem_flatMap.mpr ⟨k.dropLast, h1, h3⟩
theorem inj_of_nodup {α β : Type} {f : α → β} : ∀ {l : List α}, (l.map f).Nodup → ∀ {a b : α}, a ∈ l → b ∈ l → f a = f b → a = b
  | [], _, _, _, h, _, _ => (List.not_mem_nil h).elim
  | x :: r, hn, a, b, ha, hb, e => by
    have h' : (f x :: r.map f).Nodup := hn
    obtain ⟨h1, h2⟩ := List.nodup_cons.mp h'
    rcases List.mem_cons.mp ha with ea | ha <;> rcases List.mem_cons.mp hb with eb | hb
    · rw [ea, eb]
    · rw [ea] at e
      exact (h1 (List.mem_map.mpr ⟨b, hb, e.symm⟩)).elim
    · rw [eb] at e
      exact (h1 (List.mem_map.mpr ⟨a, ha, e⟩)).elim
    · exact inj_of_nodup h2 ha hb e
/-- a state, its factor taken out; its upper part -/
def bH (a : Nat) : Nat := (a * 839798700976720815) % 18446744073709551616
def cH (a : Nat) : Nat := bH a / 68719476736
def sepL (l : List Nat) : List Nat := mapF cH l ++ mapF (fun a => (cH a + 1) % 268435456) l
theorem ap0 : apart 64 (sepL (states 0)) = true := by decide +kernel
theorem ap1 : apart 64 (sepL (states 1)) = true := by decide +kernel
theorem ap2 : apart 64 (sepL (states 2)) = true := by decide +kernel
theorem ap3 : apart 64 (sepL (states 3)) = true := by decide +kernel
theorem sep_nodup : ∀ n, n ≤ 3 → (sepL (states n)).Nodup
  | 0, _ => apart_nodup _ _ ap0
  | 1, _ => apart_nodup _ _ ap1
  | 2, _ => apart_nodup _ _ ap2
  | 3, _ => apart_nodup _ _ ap3
  | n + 4, h => by omega
theorem sep_of {n a b : Nat} (hn : n ≤ 3) (ha : a ∈ states n) (hb : b ∈ states n) : (cH a = cH b → a = b) ∧ cH a ≠ (cH b + 1) % 268435456 := by
  have h0 := sep_nodup n hn
  unfold sepL at h0
  rw [mapF_eq, mapF_eq] at h0
  have h := List.nodup_append.mp h0
  exact ⟨inj_of_nodup h.1 ha hb, h.2.2 _ (List.mem_map.mpr ⟨a, ha, rfl⟩) _ (List.mem_map.mpr ⟨b, hb, rfl⟩)⟩
def addH (a d : Nat) : Nat := (a + d * 14029467366897019727) % 18446744073709551616
def turnH (x : Nat) : Nat := ((x * 2147483648) % 18446744073709551616 + x / 8589934592) * 11400714785074694791 % 18446744073709551616
theorem step_eq (a d : Nat) : stepH a d = turnH (addH a d) := rfl
theorem rot_eq (x : Nat) : (x * 2147483648) % 18446744073709551616 = (x % 8589934592) * 2147483648 := Nat.mul_mod_mul_right 2147483648 x 8589934592
theorem rot_inj {x y : Nat} (hx : x < 18446744073709551616) (hy : y < 18446744073709551616) (e : (x * 2147483648) % 18446744073709551616 + x / 8589934592 = (y * 2147483648) % 18446744073709551616 + y / 8589934592) : x = y := by
  rw [rot_eq, rot_eq] at e
  omega
theorem mul_back {x : Nat} (hx : x < 18446744073709551616) : x * 11400714785074694791 % 18446744073709551616 * 614540362697595703 % 18446744073709551616 = x := by
  rw [Nat.mod_mul_mod, Nat.mul_assoc, Nat.mul_mod, show 11400714785074694791 * 614540362697595703 % 18446744073709551616 = 1 from by decide +kernel, Nat.mul_one, Nat.mod_mod, Nat.mod_eq_of_lt hx]
theorem mul_inj {x y : Nat} (hx : x < 18446744073709551616) (hy : y < 18446744073709551616) (e : x * 11400714785074694791 % 18446744073709551616 = y * 11400714785074694791 % 18446744073709551616) : x = y := by
  rw [← mul_back hx, ← mul_back hy, e]
theorem rot_lt {x : Nat} (hx : x < 18446744073709551616) : (x * 2147483648) % 18446744073709551616 + x / 8589934592 < 18446744073709551616 := by
  rw [rot_eq]
  omega
theorem turn_inj {x y : Nat} (hx : x < 18446744073709551616) (hy : y < 18446744073709551616) (e : turnH x = turnH y) : x = y :=
  rot_inj hx hy (mul_inj (rot_lt hx) (rot_lt hy) e)
theorem add_b2 (a d : Nat) : (addH a d * 839798700976720815) % 18446744073709551616 = (bH a + d) % 18446744073709551616 := by
  unfold addH bH
  rw [Nat.mod_mul_mod, Nat.add_mul, Nat.mul_assoc, Nat.add_mod, Nat.mul_mod d, show 14029467366897019727 * 839798700976720815 % 18446744073709551616 = 1 from by decide +kernel, Nat.mul_one, Nat.mod_mod]
  rw [← Nat.add_mod, Nat.mod_add_mod]
theorem add_b {a b d e : Nat} (h : addH a d = addH b e) : (bH a + d) % 18446744073709551616 = (bH b + e) % 18446744073709551616 := by
  rw [← add_b2, ← add_b2, h]
theorem b_lt (a : Nat) : bH a < 18446744073709551616 := Nat.mod_lt _ (by decide)
theorem step_inj {n a b d e : Nat} (hn : n ≤ 3) (ha : a ∈ states n) (hb : b ∈ states n) (hd : d < 10) (he : e < 10) (h : stepH a d = stepH b e) : a = b ∧ d = e := by
  have h1 : addH a d = addH b e := turn_inj (Nat.mod_lt _ (by decide)) (Nat.mod_lt _ (by decide)) h
  have h2 := add_b h1
  have la := b_lt a
  have lb := b_lt b
  obtain ⟨s1, s2⟩ := sep_of hn ha hb
  obtain ⟨s3, s4⟩ := sep_of hn hb ha
  have key : cH a = cH b ∨ cH a = (cH b + 1) % 268435456 ∨ cH b = (cH a + 1) % 268435456 := by
    unfold cH
    clear s1 s2 s3 s4 h1 h
    generalize bH a = y at h2 la ⊢
    generalize bH b = z at h2 lb ⊢
    omega
  rcases key with k | k | k
  · have e1 := s1 k
    subst e1
    refine ⟨rfl, ?_⟩
    generalize bH a = z at h2 la
    omega
  · exact absurd k s2
  · exact absurd k s4
theorem states_nodup : ∀ n, n ≤ 4 → ∀ {k k' : List Nat}, k.length = n → k'.length = n → (∀ d ∈ k, d < 10) → (∀ d ∈ k', d < 10) → foldH k = foldH k' → k = k'
  | 0, _, k, k', h, h', _, _, _ => by rw [List.length_eq_zero_iff.mp h, List.length_eq_zero_iff.mp h']
  | n + 1, hn, k, k', h, h', hd, hd', e => by
    have ne : k ≠ [] := fun e => by rw [e] at h; cases h
    have ne' : k' ≠ [] := fun e => by rw [e] at h'; cases h'
    have ek := (List.dropLast_concat_getLast ne).symm
    have ek' := (List.dropLast_concat_getLast ne').symm
    have l1 : k.dropLast.length = n := by rw [List.length_dropLast]; omega
    have l2 : k'.dropLast.length = n := by rw [List.length_dropLast]; omega
    have d1 : ∀ d ∈ k.dropLast, d < 10 := fun d m => hd d (List.dropLast_subset _ m)
    have d2 : ∀ d ∈ k'.dropLast, d < 10 := fun d m => hd' d (List.dropLast_subset _ m)
    have m1 : foldH k.dropLast ∈ states n := by
      rw [states_digs]
      exact List.mem_map.mpr ⟨_, digs_mem n _ l1 d1, rfl⟩
    have m2 : foldH k'.dropLast ∈ states n := by
      rw [states_digs]
      exact List.mem_map.mpr ⟨_, digs_mem n _ l2 d2, rfl⟩
    rw [ek, ek', foldH_snoc, foldH_snoc] at e
    obtain ⟨e1, e2⟩ := step_inj (by omega) m1 m2 (hd _ (List.getLast_mem ne)) (hd' _ (List.getLast_mem ne')) e
    rw [ek, ek', states_nodup n (by omega) l1 l2 d1 d2 e1, e2]
/-- the last turn -/
def endH (n : Nat) (acc : Nat) : Nat := (acc + (n ^^^ (2870177450012600261 ^^^ 3527539))) % 18446744073709551616
/-- the state behind n digits that the last turn would make -1: the one ahead of the turn -/
def badX : Nat → Nat
  | 0 => 12973532826482843043
  | 1 => 5662582672528149307
  | 2 => 9148689060682678900
  | 3 => 1837738906727985164
  | _ => 5323845294882514757
def badU : Nat → Nat
  | 0 => 16775350177469367149
  | 1 => 17709923410961135189
  | 2 => 15746002411462551884
  | 3 => 16680575644954319924
  | _ => 14716654645455736619
theorem bad1 : (states 0).all (fun a => Nat.ble 10 ((badU 1 + (18446744073709551616 - bH a)) % 18446744073709551616)) = true := by decide +kernel
theorem bad2 : (states 1).all (fun a => Nat.ble 10 ((badU 2 + (18446744073709551616 - bH a)) % 18446744073709551616)) = true := by decide +kernel
theorem bad3 : (states 2).all (fun a => Nat.ble 10 ((badU 3 + (18446744073709551616 - bH a)) % 18446744073709551616)) = true := by decide +kernel
theorem bad4 : (states 3).all (fun a => Nat.ble 10 ((badU 4 + (18446744073709551616 - bH a)) % 18446744073709551616)) = true := by decide +kernel
theorem bad_of {n a d : Nat} (u : (badX n * 839798700976720815) % 18446744073709551616 = badU n) (ux : badX n < 18446744073709551616) (g : Nat.ble 10 ((badU n + (18446744073709551616 - bH a)) % 18446744073709551616) = true) (hd : d < 10) : addH a d ≠ badX n := by
  intro e
  have g' := Nat.le_of_ble_eq_true g
  have lb := b_lt a
  have h : (bH a + d) % 18446744073709551616 = badU n := by
    rw [← u, ← e, add_b2]
  have lu : badU n < 18446744073709551616 := by
    rw [← u]
    exact Nat.mod_lt _ (by decide)
  clear u e ux
  generalize bH a = y at g' lb h
  generalize badU n = z at g' h lu
  omega
theorem foldH_lt {k : List Nat} : foldH k < 18446744073709551616 := by
  by_cases h : k = []
  · subst h
    decide
  · rw [(List.dropLast_concat_getLast h).symm, foldH_snoc]
    exact Nat.mod_lt _ (by decide)
theorem end_of {n a d v : Nat} (hv : turnH (badX n) = v) (ux : badX n < 18446744073709551616) (hb : addH a d ≠ badX n) (he : (v + (n ^^^ (2870177450012600261 ^^^ 3527539))) % 18446744073709551616 = 18446744073709551615) (vl : v < 18446744073709551616) : endH n (stepH a d) ≠ 18446744073709551615 := by
  intro e
  refine hb (turn_inj (Nat.mod_lt _ (by decide)) ux ?_)
  rw [hv]
  rw [step_eq] at e
  have l : turnH (addH a d) < 18446744073709551616 := Nat.mod_lt _ (by decide)
  unfold endH at e
  generalize (n ^^^ (2870177450012600261 ^^^ 3527539)) = c at e he
  omega
theorem foldH_end {k : List Nat} {n : Nat} (hn : n ≤ 4) (h : k.length = n) (hd : ∀ d ∈ k, d < 10) : endH n (foldH k) ≠ 18446744073709551615 := by
  match n, hn with
  | 0, _ =>
    rw [List.length_eq_zero_iff.mp h]
    decide +kernel
  | n + 1, hn =>
    have ne : k ≠ [] := fun e => by rw [e] at h; cases h
    have l1 : k.dropLast.length = n := by rw [List.length_dropLast]; omega
    have d1 : ∀ d ∈ k.dropLast, d < 10 := fun d m => hd d (List.dropLast_subset _ m)
    have m1 : foldH k.dropLast ∈ states n := by
      rw [states_digs]
      exact List.mem_map.mpr ⟨_, digs_mem n _ l1 d1, rfl⟩
    have hl := hd _ (List.getLast_mem ne)
    rw [(List.dropLast_concat_getLast ne).symm, foldH_snoc]
    match n, hn, m1 with
    | 0, _, m1 => exact end_of (v := 15576566623696079688) (by decide +kernel) (by decide) (bad_of (by decide +kernel) (by decide) (List.all_eq_true.mp bad1 _ m1) hl) (by decide +kernel) (by decide)
    | 1, _, m1 => exact end_of (v := 15576566623696079691) (by decide +kernel) (by decide) (bad_of (by decide +kernel) (by decide) (List.all_eq_true.mp bad2 _ m1) hl) (by decide +kernel) (by decide)
    | 2, _, m1 => exact end_of (v := 15576566623696079690) (by decide +kernel) (by decide) (bad_of (by decide +kernel) (by decide) (List.all_eq_true.mp bad3 _ m1) hl) (by decide +kernel) (by decide)
    | 3, _, m1 => exact end_of (v := 15576566623696079693) (by decide +kernel) (by decide) (bad_of (by decide +kernel) (by decide) (List.all_eq_true.mp bad4 _ m1) hl) (by decide +kernel) (by decide)
/-- what the model makes of the last state -/
def outH (n : Nat) (acc : Nat) : Int :=
  let r : Int := if endH n acc = 18446744073709551615 then 1546275796 else if endH n acc < 9223372036854775808 then (endH n acc : Int) else (endH n acc : Int) - 18446744073709551616
  if r = -1 then -2 else r
theorem outH_inj {k k' : List Nat} {n : Nat} (hn : n ≤ 4) (h : k.length = n) (h' : k'.length = n) (hd : ∀ d ∈ k, d < 10) (hd' : ∀ d ∈ k', d < 10) (e : outH n (foldH k) = outH n (foldH k')) : k = k' := by
  have a1 := foldH_end hn h hd
  have b1 := foldH_end hn h' hd'
  have a2 := foldH_lt (k := k)
  have b2 := foldH_lt (k := k')
  refine states_nodup n hn h h' hd hd' ?_
  have l1 : endH n (foldH k) < 18446744073709551616 := Nat.mod_lt _ (by decide)
  have l2 : endH n (foldH k') < 18446744073709551616 := Nat.mod_lt _ (by decide)
  unfold outH at e
  rw [if_neg a1, if_neg b1] at e
  have e2 : endH n (foldH k) = endH n (foldH k') := by
    simp only at e
    split at e <;> split at e <;> split at e <;> split at e <;> omega
  unfold endH at e2
  generalize (n ^^^ (2870177450012600261 ^^^ 3527539)) = c at e2
  omega
end KR
end
section
set_option autoImplicit false
/-! The plain law, part T: tokens. -/
namespace KR
open VamvsBase
/-- the sign that a byte is told as -/
def sc (c : UInt8) : Nat := if isLetter c || isDigit c || SIGNS.contains c then c.toNat else 63
def lettersL : List Nat := [97, 98, 99, 100, 101, 102, 103, 104, 105, 106, 107, 108, 109, 110, 111, 112, 113, 114, 115, 116, 117, 118, 119, 120, 121, 122, 65, 66, 67, 68, 69, 70, 71, 72, 73, 74, 75, 76, 77, 78, 79, 80, 81, 82, 83, 84, 85, 86, 87, 88, 89, 90]
def digitsL : List Nat := [48, 49, 50, 51, 52, 53, 54, 55, 56, 57]
def signsL : List Nat := [44, 58, 59, 45]
theorem all_u8 {p : UInt8 → Bool} (h : (List.range 256).all (fun n => p (UInt8.ofNat n)) = true) (c : UInt8) : p c = true := by
  have := List.all_eq_true.mp h c.toNat (List.mem_range.mpr c.toNat_lt)
  rwa [UInt8.ofNat_toNat] at this
theorem sc_all (c : UInt8) : sc c = if c.toNat ∈ lettersL ++ digitsL ++ signsL then c.toNat else 63 := by
  have := all_u8 (p := fun c => sc c == if c.toNat ∈ lettersL ++ digitsL ++ signsL then c.toNat else 63) (by decide +kernel) c
  exact beq_iff_eq.mp this
theorem sc_letter (c : UInt8) : decide (sc c ∈ lettersL) = isLetter c := by
  have := all_u8 (p := fun c => decide (sc c ∈ lettersL) == isLetter c) (by decide +kernel) c
  exact beq_iff_eq.mp this
theorem sc_digit (c : UInt8) : decide (sc c ∈ digitsL) = isDigit c := by
  have := all_u8 (p := fun c => decide (sc c ∈ digitsL) == isDigit c) (by decide +kernel) c
  exact beq_iff_eq.mp this
theorem sc_both (c : UInt8) : decide (sc c ∈ lettersL ++ digitsL) = (isLetter c || isDigit c) := by
  have := all_u8 (p := fun c => decide (sc c ∈ lettersL ++ digitsL) == (isLetter c || isDigit c)) (by decide +kernel) c
  exact beq_iff_eq.mp this
theorem sc_sign (c : UInt8) : decide (sc c ∈ signsL) = SIGNS.contains c := by
  have := all_u8 (p := fun c => decide (sc c ∈ signsL) == SIGNS.contains c) (by decide +kernel) c
  exact beq_iff_eq.mp this
theorem sc_same (c : UInt8) (h : (isLetter c || isDigit c || SIGNS.contains c) = true) : sc c = c.toNat := by
  unfold sc
  rw [if_pos h]
theorem not_both (c : UInt8) : (isLetter c && isDigit c) = false := by
  have := all_u8 (p := fun c => (isLetter c && isDigit c) == false) (by decide +kernel) c
  exact beq_iff_eq.mp this
/-- where a run that begins at i ends -/
def runN {α : Type} (p : α → Bool) (l : List α) (i : Nat) : Nat := i + ((l.drop i).takeWhile p).length
theorem runN_go {α : Type} {p : α → Bool} {l : List α} {i : Nat} {c : α} (h : l[i]? = some c) (hp : p c = true) : runN p l i = runN p l (i + 1) := by
  obtain ⟨lt, e⟩ := List.getElem?_eq_some_iff.mp h
  unfold runN
  rw [List.drop_eq_getElem_cons lt, e, List.takeWhile_cons_of_pos hp, List.length_cons]
  omega
theorem runN_stop {α : Type} {p : α → Bool} {l : List α} {i : Nat} {c : α} (h : l[i]? = some c) (hp : p c = false) : runN p l i = i := by
  obtain ⟨lt, e⟩ := List.getElem?_eq_some_iff.mp h
  unfold runN
  rw [List.drop_eq_getElem_cons lt, e, List.takeWhile_cons_of_neg (by rw [hp]; decide)]
  rfl
theorem runN_end {α : Type} {p : α → Bool} {l : List α} {i : Nat} (h : l.length ≤ i) : runN p l i = i := by
  unfold runN
  rw [List.drop_eq_nil_of_le h]
  rfl
theorem tw_len {α : Type} (p : α → Bool) : ∀ l : List α, (l.takeWhile p).length ≤ l.length
  | [] => Nat.le_refl _
  | a :: r => by
    rw [List.takeWhile_cons]
    split
    · have := tw_len p r
      simp
      exact this
    · exact Nat.zero_le _
theorem runN_le {α : Type} {p : α → Bool} {l : List α} {i : Nat} (h : i ≤ l.length) : runN p l i ≤ l.length := by
  unfold runN
  have := tw_len p (l.drop i)
  rw [List.length_drop] at this
  omega
theorem runN_take {α : Type} {p : α → Bool} (l : List α) (i : Nat) : (l.drop i).take (runN p l i - i) = (l.drop i).takeWhile p := by
  unfold runN
  rw [Nat.add_sub_cancel_left]
  generalize l.drop i = m
  induction m with
  | nil => rfl
  | cons a r ih =>
    rw [List.takeWhile_cons]
    split
    · rw [List.length_cons, List.take_succ_cons, ih]
    · rfl
/-- what digits are worth, or one more than the most -/
def worthN (l : Bytes) : Nat := l.foldl (fun n c => if 1000000001 < 10 * n + (c.toNat - 48) then 1000000001 else 10 * n + (c.toNat - 48)) 0
theorem fold_min : ∀ (l : Bytes) (n m : Nat), (n = if 1000000001 < m then 1000000001 else m) →
    l.foldl (fun n c => if 1000000001 < 10 * n + (c.toNat - 48) then 1000000001 else 10 * n + (c.toNat - 48)) n =
      (if 1000000001 < l.foldl (fun n b => 10 * n + (b.toNat - 48)) m then 1000000001 else l.foldl (fun n b => 10 * n + (b.toNat - 48)) m)
  | [], n, m, h => h
  | c :: r, n, m, h => by
    rw [List.foldl_cons, List.foldl_cons]
    refine fold_min r _ _ ?_
    generalize c.toNat - 48 = d
    subst h
    by_cases a : 1000000001 < m
    · rw [if_pos a, if_pos (by omega), if_pos (by omega)]
    · rw [if_neg a]
theorem worthN_eq (l : Bytes) : worthN l = if 1000000001 < decimal l then 1000000001 else decimal l := fold_min l 0 0 rfl
theorem dec_ge : ∀ (l : Bytes) (n : Nat), n * 10 ^ l.length ≤ l.foldl (fun n b => 10 * n + (b.toNat - 48)) n
  | [], n => by simp
  | c :: r, n => by
    rw [List.foldl_cons, List.length_cons]
    refine Nat.le_trans ?_ (dec_ge r _)
    rw [Nat.pow_succ]
    have : n * (10 ^ r.length * 10) = (10 * n) * 10 ^ r.length := by
      rw [Nat.mul_comm (10 ^ r.length) 10, ← Nat.mul_assoc, Nat.mul_comm n 10]
    rw [this]
    exact Nat.mul_le_mul_right _ (Nat.le_add_right _ _)
/-- the number's faults, told by what the digits are worth -/
theorem numberOf_eq {c : UInt8} {r : Bytes} (hc : isDigit c = true) :
    numberOf (c :: r) = if 1000000000 < worthN (c :: r) ∨ (c.toNat = 48 ∧ 1 < (c :: r).length) then none else some (worthN (c :: r)) := by
  have hd : 48 ≤ c.toNat ∧ c.toNat ≤ 57 := of_decide_eq_true hc
  have big : 10 < (c :: r).length → c.toNat ≠ 48 → 10000000000 ≤ decimal (c :: r) := by
    intro h1 h2
    have h3 : (c.toNat - 48) * 10 ^ r.length ≤ decimal (c :: r) := by
      have := dec_ge r (10 * 0 + (c.toNat - 48))
      have e : 10 * 0 + (c.toNat - 48) = c.toNat - 48 := by omega
      show _ ≤ List.foldl _ (10 * 0 + (c.toNat - 48)) r
      rw [e] at this ⊢
      exact this
    rw [List.length_cons] at h1
    have h4 : 10 ^ 10 ≤ 10 ^ r.length := Nat.pow_le_pow_right (by decide) (by omega)
    have h5 : 1 * 10 ^ r.length ≤ (c.toNat - 48) * 10 ^ r.length := Nat.mul_le_mul_right _ (by omega)
    omega
  have h48 : (c = 48) ↔ c.toNat = 48 := ⟨fun h => by rw [h]; rfl, fun h => by
    have := UInt8.ofNat_toNat (x := c)
    rw [h] at this
    exact this.symm⟩
  have en : NUMBER = 1000000000 := rfl
  unfold numberOf
  rw [en]
  have eh : (c :: r).head? = some 48 ↔ c.toNat = 48 := by
    rw [List.head?_cons, Option.some.injEq]
    exact h48
  by_cases h1 : c.toNat = 48 ∧ 1 < (c :: r).length
  · rw [if_pos (Or.inr (Or.inr (Or.inl ⟨h1.2, eh.mpr h1.1⟩))), if_pos (Or.inr h1)]
  · by_cases h2 : 1000000000 < decimal (c :: r)
    · have h3 : 1000000000 < worthN (c :: r) := by
        rw [worthN_eq]
        split <;> omega
      rw [if_pos (Or.inr (Or.inr (Or.inr h2))), if_pos (Or.inl h3)]
    · have h3 : worthN (c :: r) = decimal (c :: r) := by
        rw [worthN_eq, if_neg (by omega)]
      have h4 : ¬ 10 < (c :: r).length := fun h => by
        by_cases h5 : c.toNat = 48
        · exact h1 ⟨h5, by omega⟩
        · have := big h h5
          omega
      rw [if_neg (by
        rintro (h | h | h | h)
        · cases h
        · exact h4 h
        · exact h1 ⟨eh.mp h.2, h.1⟩
        · exact h2 h), if_neg (by
        rintro (h | h)
        · rw [h3] at h
          exact h2 h
        · exact h1 h), h3]
/-- the token at a place; more fuel than bytes changes nothing -/
theorem token_pos {b : UInt8} {r : Bytes} {t : Tok} {k : Nat} (h : token (b :: r) = some (t, k)) : 1 ≤ k ∧ k ≤ (b :: r).length := by
  unfold token at h
  split at h
  · cases h
  · rename_i b' r' e
    cases e
    simp only at h
    split at h
    · rename_i hl
      split at h
      · cases h
      · cases h
        have := tw_len (fun c => isLetter c || isDigit c) (b :: r)
        refine ⟨?_, this⟩
        rw [List.takeWhile_cons_of_pos (by rw [hl]; rfl)]
        simp
    · split at h
      · rename_i hd
        obtain ⟨n, _, e⟩ := Option.map_eq_some_iff.mp h
        cases e
        have := tw_len isDigit (b :: r)
        refine ⟨?_, this⟩
        rw [List.takeWhile_cons_of_pos hd]
        simp
      · split at h
        · cases h
          exact ⟨Nat.le_refl _, by simp⟩
        · cases h
theorem dw_len {α : Type} (p : α → Bool) : ∀ l : List α, (l.dropWhile p).length ≤ l.length
  | [] => Nat.le_refl _
  | a :: r => by
    rw [List.dropWhile_cons]
    split
    · have := dw_len p r
      simp
      omega
    · exact Nat.le_refl _
theorem lex_fuel : ∀ (n m i : Nat) (l : Bytes), l.length < n → l.length < m → lex n i l = lex m i l
  | 0, _, _, l, h, _ => absurd h (Nat.not_lt_zero _)
  | _ + 1, 0, _, l, _, h => absurd h (Nat.not_lt_zero _)
  | n + 1, m + 1, i, [], _, _ => rfl
  | n + 1, m + 1, i, b :: r, h1, h2 => by
    rw [List.length_cons] at h1 h2
    unfold lex
    by_cases c1 : isBlank b = true
    · rw [if_pos c1, if_pos c1, lex_fuel n m (i + 1) r (by omega) (by omega)]
    · rw [if_neg c1, if_neg c1]
      by_cases c2 : (b == 35) = true
      · have := dw_len (· != 10) r
        rw [if_pos c2, if_pos c2, lex_fuel n m _ _ (by omega) (by omega)]
      · rw [if_neg c2, if_neg c2]
        cases e : token (b :: r) with
        | none => rfl
        | some x =>
          obtain ⟨t, k⟩ := x
          obtain ⟨k1, k2⟩ := token_pos e
          have hl : ((b :: r).drop k).length < n := by
            rw [List.length_drop, List.length_cons]
            omega
          have hl2 : ((b :: r).drop k).length < m := by
            rw [List.length_drop, List.length_cons]
            omega
          show ((lex n (i + k) ((b :: r).drop k)).map fun l => (⟨i, t⟩ : PTok) :: l) = _
          rw [lex_fuel n m _ _ hl hl2]
/-- the tokens from a place on -/
def lexAt (l : Bytes) (i : Nat) : Except Fault Toks := lex (l.length + 1) i (l.drop i)
theorem lexAt_end {l : Bytes} {i : Nat} (h : l.length ≤ i) : lexAt l i = .ok [⟨i, .last⟩] := by
  unfold lexAt
  rw [List.drop_eq_nil_of_le h]
  rfl
theorem lexAt_blank {l : Bytes} {i : Nat} {c : UInt8} (h : l[i]? = some c) (hb : isBlank c = true) : lexAt l i = lexAt l (i + 1) := by
  obtain ⟨lt, e⟩ := List.getElem?_eq_some_iff.mp h
  unfold lexAt
  rw [List.drop_eq_getElem_cons lt, e]
  show (if isBlank c = true then lex l.length (i + 1) (l.drop (i + 1)) else _) = _
  rw [if_pos hb]
  have hl : (l.drop (i + 1)).length < l.length := by
    rw [List.length_drop]
    omega
  exact lex_fuel _ _ _ _ hl (by omega)
theorem drop_run {α : Type} (p : α → Bool) (l : List α) (i : Nat) : (l.drop i).dropWhile p = l.drop (runN p l i) := by
  unfold runN
  rw [← List.drop_drop]
  generalize l.drop i = m
  induction m with
  | nil => rfl
  | cons a r ih =>
    rw [List.dropWhile_cons, List.takeWhile_cons]
    split
    · rw [ih]
      rfl
    · rfl
theorem lexAt_remark {l : Bytes} {i : Nat} {c : UInt8} (h : l[i]? = some c) (hb : isBlank c = false) (hc : (c == 35) = true) : lexAt l i = lexAt l (runN (fun b => b != 10) l (i + 1)) := by
  obtain ⟨lt, e⟩ := List.getElem?_eq_some_iff.mp h
  have lt2 : i + 1 ≤ l.length := lt
  have r1 := runN_le (p := fun b : UInt8 => b != 10) lt2
  unfold lexAt
  rw [List.drop_eq_getElem_cons lt, e]
  show (if isBlank c = true then _ else if (c == 35) = true then lex l.length (i + 1 + ((l.drop (i + 1)).takeWhile (· != 10)).length) ((l.drop (i + 1)).dropWhile (· != 10)) else _) = _
  rw [if_neg (by rw [hb]; decide), if_pos hc, drop_run]
  show lex l.length (runN (fun b => b != 10) l (i + 1)) _ = _
  have r2 : i + 1 ≤ runN (fun b : UInt8 => b != 10) l (i + 1) := Nat.le_add_right _ _
  have hl : (l.drop (runN (fun b : UInt8 => b != 10) l (i + 1))).length < l.length := by
    rw [List.length_drop]
    omega
  exact lex_fuel _ _ _ _ hl (by omega)
theorem lexAt_none {l : Bytes} {i : Nat} {c : UInt8} (h : l[i]? = some c) (hb : isBlank c = false) (hc : (c == 35) = false) (ht : token (l.drop i) = none) : lexAt l i = .error ⟨2, i⟩ := by
  obtain ⟨lt, e⟩ := List.getElem?_eq_some_iff.mp h
  unfold lexAt
  rw [List.drop_eq_getElem_cons lt, e] at ht ⊢
  show (if isBlank c = true then _ else if (c == 35) = true then _ else match token (c :: l.drop (i + 1)) with
      | none => Except.error (⟨2, i⟩ : Fault)
      | some x => (lex l.length (i + x.2) ((c :: l.drop (i + 1)).drop x.2)).map fun l => (⟨i, x.1⟩ : PTok) :: l) = _
  rw [if_neg (by rw [hb]; decide), if_neg (by rw [hc]; decide), ht]
theorem lexAt_some {l : Bytes} {i : Nat} {c : UInt8} {t : Tok} {k : Nat} (h : l[i]? = some c) (hb : isBlank c = false) (hc : (c == 35) = false) (ht : token (l.drop i) = some (t, k)) :
    lexAt l i = (lexAt l (i + k)).map fun r => ⟨i, t⟩ :: r := by
  obtain ⟨lt, e⟩ := List.getElem?_eq_some_iff.mp h
  have hd : l.drop i = c :: l.drop (i + 1) := by rw [List.drop_eq_getElem_cons lt, e]
  have hd2 : (c :: l.drop (i + 1)).drop k = l.drop (i + k) := by rw [← hd, List.drop_drop]
  rw [hd] at ht
  obtain ⟨k1, k2⟩ := token_pos ht
  unfold lexAt
  rw [hd]
  show (if isBlank c = true then _ else if (c == 35) = true then _ else match token (c :: l.drop (i + 1)) with
      | none => Except.error (⟨2, i⟩ : Fault)
      | some x => (lex l.length (i + x.2) ((c :: l.drop (i + 1)).drop x.2)).map fun l => (⟨i, x.1⟩ : PTok) :: l) = _
  rw [if_neg (by rw [hb]; decide), if_neg (by rw [hc]; decide), ht]
  show (lex l.length (i + k) ((c :: l.drop (i + 1)).drop k)).map _ = _
  rw [hd2]
  have hl : (l.drop (i + k)).length < l.length := by
    rw [List.length_drop]
    omega
  rw [lex_fuel l.length (l.length + 1) _ _ hl (by omega)]
theorem tokens_eq (l : Bytes) : tokens l = if 4096 < l.length then .error ⟨1, 4096⟩ else lexAt l 0 := by
  unfold tokens lexAt
  rfl
end KR
end
section
set_option maxRecDepth 100000
set_option maxHeartbeats 4000000
/-! Rules of one's own over the hand layer: constants, dict(d), d.pop(k), len of a set of tuples. -/
namespace KR
open PySem PySem.Spec PyProof.Rows L2
section
variable {X : Cx}
/-- a module's constant: a whole number, a text -/
theorem pe_cI {x : Str} {i : Int} {pos : Pos} (h : ∃ t, X.mg x = some (.int i t)) (hg : Gl X x := by rfl) (hd : (x == ("__debug__" : Str)) = false := by decide) : PE X (.Name x pos) (tC (.int i)) := by
  obtain ⟨t, h⟩ := h
  exact pe_glob hg h ⟨t, rfl⟩ hd
theorem pe_cS {x : Str} {z : Str} {pos : Pos} (h : ∃ t, X.mg x = some (.str z t)) (hg : Gl X x := by rfl) (hd : (x == ("__debug__" : Str)) = false := by decide) : PE X (.Name x pos) (tC (.str z)) := by
  obtain ⟨t, h⟩ := h
  exact pe_glob hg h ⟨t, rfl⟩ hd
/-- d.pop(k) of a key that is there, tuple keys -/
def rPop1T : V → List V → Hp → VK → Prop := fun x xs H Q =>
  ∃ (a : Addr) (kvs : List (List L2.Key × V)) (k : List L2.Key) (b : Addr) (v : V), x = .ref a ∧ xs = [.ref b] ∧ H a = some (.dT kvs) ∧
    H b = some (.tup (k.map kV)) ∧ valV kvs k = some v ∧ Q v (upd H a (.dT (dropK kvs k)))
theorem mt_pop1T (hu : X.A.units + 1 < cLine) : MtR X "dict.pop" rPop1T := by
  intro pins s σ H x xs v us Q I rx rxs h
  obtain ⟨a, kvs, k, b, v1, rfl, rfl, ha, hb, ev, q⟩ := h
  cases rx
  obtain ⟨u1, rfl, r1⟩ := vals1 rxs
  cases r1
  obtain ⟨z, hd, xs', rel, dd⟩ := dt_of I.hok ha
  have hz : xs'.length ≤ sizeLine := by
    have e := Paired.length rel
    omega
  have r := rel.val k
  rw [ev] at r
  obtain ⟨u, hu1, ru⟩ := RelO.some_of r
  obtain ⟨p, hp, rfl⟩ := Option.map_eq_some_iff.mp hu1
  refine call_pop_heap (knd := tupleKind (mixKind X.prog X.w)) (more := []) (.inl rfl) (PySem.F.args_dict_pop_2 _ _) (tupleKind_room_in1 hu)
    (key_of I.hok hb) hd dd hp (fun h' dd' hs => ?_) hz
  obtain ⟨o, es, ep, hq, h2, h3, h4, _, h5⟩ := dd'
  have kt : KT H (dropK kvs k) (withoutH xs' k) := DX.KT_drop k rel
  have I2 : Inv X pins σ (upd H a (.dT (dropK kvs k))) { s with heap := h', toks := s.toks + (tupleKind (mixKind X.prog X.w)).draws k } :=
    d_write I (by rw [ha]; exact True.intro) hs ⟨o, hq⟩
      ⟨Nat.le_trans (dropK_le kvs k) z, hd, _, kt.keeps (fun c ys ec => by
        rw [upd_ne (ne_of ec ha (fun z => nomatch z))]
        exact ec), o, es, ep, hq, h2, h3, h4, h5⟩
  exact ⟨v1, _, I2, ru, q⟩
/-- dict(d): a dict with tuple keys that hash apart, laid anew -/
def rDictT (P : Program) (w : World) : List V → Hp → VK → Prop := fun xs H Q =>
  ∃ (a : Addr) (kvs : List (List L2.Key × V)), xs = [.ref a] ∧ H a = some (.dT kvs) ∧
    (kvs.map fun p => (tupleKind (mixKind P w)).hash p.1).Nodup ∧ ∀ p, H p = none → Q (.ref p) (upd H p (.dT kvs))
theorem kt_pairs {H : Hp} {kvs : List (List L2.Key × V)} {xs : List (List L2.Key × Addr × Value)} (r : KT H kvs xs) : kvs.map (·.1) = xs.map (·.1) := by
  induction r with
  | nil => rfl
  | cons h t ih =>
    rw [List.map_cons, List.map_cons, ih, h.1]
theorem call_dictT (hu : X.A.units + 64 < cLine) : CallR X (.type "dict") (rDictT X.prog X.w) := by
  intro pins s σ H xs us Q I r h
  obtain ⟨a, kvs, rfl, ha, hap, q⟩ := h
  obtain ⟨u1, rfl, r1⟩ := vals1 r
  cases r1
  obtain ⟨z, hd, xs', rel, dd⟩ := dt_of I.hok ha
  have hfree : H s.heap.objs.size = none := I.hok.fresh (Nat.le_refl _)
  have hle : a < s.heap.objs.size := I.hok.lt ha
  have keys : kvs.map (·.1) = xs'.map (·.1) := kt_pairs rel
  have hap' : (xs'.map fun x => (tupleKind (mixKind X.prog X.w)).hash x.1).Nodup := by
    have e1 : (kvs.map fun p => (tupleKind (mixKind X.prog X.w)).hash p.1) = (kvs.map (·.1)).map (tupleKind (mixKind X.prog X.w)).hash := by
      rw [List.map_map]
      rfl
    have e2 : (xs'.map fun x => (tupleKind (mixKind X.prog X.w)).hash x.1) = (xs'.map (·.1)).map (tupleKind (mixKind X.prog X.w)).hash := by
      rw [List.map_map]
      rfl
    rw [e2, ← keys, ← e1]
    exact hap
  have hz : xs'.length ≤ sizeLine := by
    have e := Paired.length rel
    omega
  refine callType_codes (Q₁ := fun obj s₁ => obj = .ref s.heap.objs.size ∧
      s₁ = { s with heap := s.heap.push { cls := .type "dict", data := .dict #[] } })
    PySem.F.kt_called_dict (PySem.F.kt_typeCall_dict_1 _) PySem.F.entry_dict_init (kt_code_dict_new _ ⟨rfl, rfl⟩) ?_
  rintro obj s₁ ⟨rfl, rfl⟩
  have hT : Shared.TypeIs { s with heap := s.heap.push { cls := .type "dict", data := .dict #[] } } (.ref s.heap.objs.size) "dict" :=
    ⟨_, Heap.get?_push_size _ rfl, rfl⟩
  refine ⟨hT, PySem.F.args_dict_init_2 _ _, ?_⟩
  unfold Builtin.«dict.__init__» Builtin.Dict.selfAndRest
  refine wpAny_bind (wpAny_bind (wpAny_notOrdered_dict hT ?_))
  show wpAny _ _ (pure _) _ _ _
  refine wpAny_pure ?_
  show wpAny _ _ (Builtin.Dict.updateFrom "dict.__init__" s.heap.objs.size (.ref a) [] .none) _ _ _
  have dd1 : Heap.DictOfH (tupleKind (mixKind X.prog X.w)) (s.heap.push { cls := .type "dict", data := .dict #[] }) a xs' := by
    obtain ⟨o, es, ep, h1, h2, h3, h4, h5, h6⟩ := dd
    refine ⟨o, es, ep, Heap.get?_push_of_some _ h1, h2, h3, h4, fun x hx => ?_, h6⟩
    exact tupleKind_stays.stays (fun b ob vs n e _ => Heap.get?_push_of_some _ e) (h5 x hx)
  have ne : s.heap.objs.size ≠ a := Nat.ne_of_gt hle
  refine updateFrom_dictH (A := X.A.in1) (nm := "dict.__init__") (knd := tupleKind (mixKind X.prog X.w)) .none (show X.A.in1.in1.units < cLine from ?_) ne hd
    (Heap.DictOfH.new s.heap) dd1 (.inr ⟨fun x hx => ?_, hap'⟩) (by simpa using hz) fun h' d1 d2 hs => ?_
  · show X.A.units + 1 + 1 < cLine
    omega
  · obtain ⟨o, es, ep, h1, h2, h3, h4, h5, h6⟩ := dd1
    exact tupleKind_stays.tuple (s := { s with heap := s.heap.push { cls := .type "dict", data := .dict #[] } }) (h5 x hx)
  · refine ⟨rfl, ?_⟩
    have keep : ∀ b o, s.heap.get? b = some o → h'.get? b = some o := fun b o e =>
      (hs.2 b (Nat.ne_of_lt (Heap.lt_size e))).trans (Heap.get?_push_of_some _ e)
    have nd : (xs'.map (·.1)).Nodup := dd.nodup
    rw [storedAllH_nil_of_nodup xs' nd] at d1
    obtain ⟨o, es, ep, h1, h2, h3, h4, h5, h6⟩ := d1
    have big : (s.heap.objs.size == sysModules) = false := by
      have b := I.big
      exact beq_eq_false_iff_ne.mpr (Nat.ne_of_gt b)
    have I2 : Inv X pins σ (upd H s.heap.objs.size (.dT kvs)) { s with heap := h', toks := s.toks } :=
      I.laid keep (Nat.le_refl _) ⟨z, big, xs', rel.keeps (fun c ys ec => by
        rw [upd_ne (ne_of_none ec hfree)]
        exact ec), o, es, ep, h1, h2, h3, h4, h6⟩
    exact ⟨.ref s.heap.objs.size, _, I2, rfl, q _ hfree⟩
/-- len of a set of tuples -/
def rLenSetT (P : Program) (w : World) : List V → Hp → VK → Prop := fun xs H Q =>
  ∃ (a : Addr) (L : List (Addr × List Int)), xs = [.ref a] ∧ H a = some (SetTO P w a L) ∧ ((L.map (·.2)).Nodup → Q (.int L.length) H)
theorem call_lenSetT : CallR X (.builtin "len") (rLenSetT X.prog X.w) := by
  intro pins s σ H xs us Q I r h
  obtain ⟨a, L, rfl, ha, q⟩ := h
  obtain ⟨u1, rfl, r1⟩ := vals1 r
  cases r1
  have T0 : SetT0 X.prog X.w s.heap a L := (I.hok a _ ha).1
  obtain ⟨es, ep, t, ⟨o, ho, hex, hd⟩, hr, tab, nd, pl, led, room, few⟩ := T0.ex
  have hl : es.size = L.length := by
    rw [← Array.length_toList, hr]
    unfold rowsOf
    rw [List.length_map]
  have hf : t.fits es.size = true := by
    have w1 := tab.sz
    have w2 := tab.dm
    rw [List.length_map] at w1
    simp only [SetTable.fits, SetTable.fill, w2, Bool.and_eq_true, beq_iff_eq, decide_eq_true_eq]
    show t.place.size = es.size ∧ t.place.size + 0 ≤ t.mask
    exact ⟨by omega, by omega⟩
  refine call_len_set ho hex hd hf (by rw [hl]; omega) ⟨.int L.length, H, I.tok _, ⟨_, by rw [hl]⟩, q nd⟩
end
end KR
end
section
set_option maxRecDepth 100000
set_option maxHeartbeats 4000000
/-! Rules of one's own: set(list of ints). -/
namespace KR
open PySem PySem.Spec PyProof.Rows L2
abbrev emptySet (w : World) : Obj := { cls := .type "set", dict := none, data := .set #[] 0 (.fresh 0 0 (!w.params.followText "set-order")) }
section
variable {P : Program} {w : World} {A : Around} {E : Value → Shared → Prop} {s : Shared}
/-- what the made set is, behind its filling -/
abbrev SetMade (w : World) (s : Shared) (ns : List Int) (r : Value) (s2 : Shared) : Prop :=
  r = Value.none ∧ ∃ h' tk c, s2 = { s with heap := h', toks := tk } ∧ SetR w h' s.heap.objs.size (fun j => decide (j ∈ ns)) c ∧ c ≤ ns.length ∧
    ∀ b o, s.heap.get? b = some o → h'.get? b = some o
abbrev withSet (w : World) (s : Shared) : Shared := { s with heap := s.heap.push (emptySet w) }
/-- the filling of the new set from a list -/
theorem set_fill {l : Addr} {items : Array Value} (ns : List Int) (hh : A.handled = none) (hl : s.heap.IsList l items)
    (hit : IntsAre items.toList ns) (hb : ns.length + 1 < scanBound) :
    wpAny (model P w) A.in1.in1 (Builtin.«set.__init__» ⟨[.ref s.heap.objs.size, .ref l], []⟩)
      (fun fin s' => match fin with
        | .done f => wants (SetMade w s ns) E (.ok f) s'
        | .again c' => c'.quiet = true ∧ codeAny (model P w) A.in1 c' (wants (SetMade w s ns) E) s')
      (fun e s' => wants (SetMade w s ns) E (.error e) s') (withSet w s) := by
  have size0 : items.size = ns.length := by
    have q := IntsAre.length hit
    rwa [Array.length_toList] at q
  have atS : (s.heap.push (emptySet w)).get? s.heap.objs.size = some (emptySet w) := Heap.get?_push_size _ rfl
  have sizeS : (s.heap.push (emptySet w)).objs.size = s.heap.objs.size + 1 := Heap.size_push ..
  obtain ⟨ol, hol, hcl, nl, hdl⟩ := hl
  have ltl : l < s.heap.objs.size := Heap.lt_size hol
  obtain ⟨ocls, odict, odata, oslots⟩ := ol
  simp only at hcl hdl
  subst hcl hdl
  have hol' := Heap.get?_push_of_some (emptySet w) hol
  have f1 := F.sub_list_set
  have f2 := F.sub_list_frozenset
  have f3 : (Value.type "list" == Value.type "dict") = false := by decide
  have isl : (s.heap.push (emptySet w)).IsList l items := ⟨_, hol', rfl, nl, rfl⟩
  have atS' : (withSet w s).heap.get? s.heap.objs.size = some (emptySet w) := atS
  have hTS : (withSet w s).TypeIs (.ref s.heap.objs.size) "set" := ⟨_, atS, rfl⟩
  unfold Builtin.«set.__init__» noKeywords Builtin.Frozenset.updateFrom
  generalize hPI : pyIter = PI
  wp_walk
  subst hPI
  refine wpAny_pyIter_list isl (wpAny_bind (wpAny_runValue ?_))
  have hn : A.in1.in1.in1.handled = none := by simp [hh]
  have lS : l ≠ (s.heap.push (emptySet w)).objs.size := by
    rw [sizeS]
    exact Nat.ne_of_lt (Nat.lt_succ_of_lt ltl)
  have outS : s.heap.objs.size ∉ [(s.heap.push (emptySet w)).objs.size, l] := by
    intro m
    rcases List.mem_cons.mp m with e | m
    · rw [sizeS] at e
      exact absurd e (Nat.ne_of_lt (Nat.lt_succ_self _))
    · have e := List.mem_singleton.mp m
      exact absurd e (Nat.ne_of_gt ltl)
  have each : ∀ (i : Nat) (v : Value), items[i]? = some v → ∃ k t, ns[i]? = some k ∧ v = .int k t := fun i v hv => by
    have hi : i < ns.length := by
      rw [← size0]
      exact (Array.getElem?_eq_some_iff.mp hv).1
    have hv' : items.toList[i]? = some v := by rw [Array.getElem?_toList]; exact hv
    obtain ⟨t, e⟩ := IntsAre.int_at hit i v hv'
    have e3 : ns[i]? = some ns[i] := List.getElem?_eq_getElem hi
    refine ⟨ns[i], t, e3, ?_⟩
    rw [e, List.getD_eq_getElem?_getD, e3]
    rfl
  refine set_update_ints ((Walks.list hn _ l lS items).toS) s.heap.objs.size outS ns size0 hb each (items.size - 0) 0 _ (by omega) (Nat.zero_le _)
    ⟨⟨_, Heap.get?_push_size _ rfl, rfl, rfl⟩, isl.push _⟩ ⟨0, Nat.le_refl 0, setR_new_at (Heap.get?_push_of_some _ atS)⟩ ?_
  intro s' c' hm hc' hS'
  obtain ⟨h', g2, d', tk', os'⟩ := s'
  have eg : g2 = s.gens := hm.gens
  have ed : d' = s.drawn := hm.drawn
  have eo : os' = s.os := hm.os
  subst eg ed eo
  refine wpAny_pure ?_
  show wpAny _ _ (ret Value.none) _ _ _
  rw [size0] at hc'
  refine wpAny_pure ⟨rfl, h', tk', c', rfl, hS', hc', fun b o e => ?_⟩
  have b1 : b < s.heap.objs.size := Heap.lt_size e
  refine hm.heap b o (fun m => ?_) (Heap.get?_push_of_some _ (Heap.get?_push_of_some _ e))
  rcases List.mem_cons.mp m with e1 | m
  · exact absurd e1 (Nat.ne_of_lt b1)
  · have e1 := List.mem_singleton.mp m
    rw [sizeS] at e1
    exact absurd e1 (Nat.ne_of_lt (Nat.lt_succ_of_lt b1))
/-- set(xs), xs a list of ints -/
theorem set_of_list {l : Addr} {items : Array Value} (ns : List Int) {Q : Value → Shared → Prop} (hh : A.handled = none) (hl : s.heap.IsList l items)
    (hit : IntsAre items.toList ns) (hb : ns.length + 1 < scanBound)
    (h : ∀ (h' : Heap) (tk c : Nat), SetR w h' s.heap.objs.size (fun j => decide (j ∈ ns)) c → c ≤ ns.length →
      (∀ b o, s.heap.get? b = some o → h'.get? b = some o) → Q (.ref s.heap.objs.size) { s with heap := h', toks := tk }) :
    wpAny (model P w) A (call (.type "set") [.ref l]) Q E s := by
  obtain ⟨c, tl, hmro⟩ := F.called_set.mro
  have t1 := F.called_set.made
  have t2 := F.called_set.sub
  refine wpAny_call (codeAny_of_tree ?_)
  show wpAny _ _ (callAny (.type "set") _) _ _ _
  refine wpAny_pure ⟨Code.quiet_builtin _ (by decide +kernel), codeAny_builtin F.entry_type_call ?_⟩
  rw [Around.under_plain (weight_type_call_type "set" [.ref l] []) rfl]
  have t3 := F.called_set.notType
  have t4 := F.called_set.canCreate
  have t5 := F.typeCall_set_1 (.ref l)
  repeat (any_goals (first | assumption | wp_step))
  refine codeAny_mono (code_set_led1 (.ref l) (E := E) (Q₁ := fun obj s₁ => obj = .ref s.heap.objs.size ∧ s₁ = withSet w s) ⟨rfl, rfl⟩) fun r s₁ hr => ?_
  cases r with
  | error e => exact hr
  | ok fl =>
    cases fl with
    | next => exact hr.elim
    | brk => exact hr.elim
    | cont => exact hr.elim
    | ret obj =>
      obtain ⟨rfl, rfl⟩ := hr
      have hT : (withSet w s).TypeIs (.ref s.heap.objs.size) "set" := ⟨_, Heap.get?_push_size _ rfl, rfl⟩
      have u1 := F.called_set.init.lookup
      have u2 := F.called_set.init.bind (.ref s.heap.objs.size)
      repeat (any_goals (first | assumption | wp_step))
      refine codeAny_mono (codeAny_call_builtin (R := wants (SetMade w s ns) E) F.called_set.init.plain F.entry_set_init
        (check_set_init_1 hT (set_fill ns hh hl hit hb))) fun r2 s2 hr2 => ?_
      cases r2 with
      | error e => exact hr2
      | ok fl2 =>
        cases fl2 with
        | next => exact hr2.elim
        | brk => exact hr2.elim
        | cont => exact hr2.elim
        | ret r =>
          obtain ⟨rfl, h', tk, c', rfl, hS', hc', hk'⟩ := hr2
          repeat (any_goals (first | assumption | wp_step))
          exact h _ _ _ hS' hc' hk'
end
theorem ints_of : ∀ {ns : List Int} {us : List Value}, Vals (ns.map V.int) us → IntsAre us ns
  | [], _, r => by
    cases r
    exact .nil
  | n :: ns, _, r => by
    cases r with
    | cons h t =>
      obtain ⟨k, rfl⟩ := h
      exact .cons n k (ints_of t)
section
variable {X : Cx}
def rSetI (w : World) (K : PySem.W.Frag) : List V → Hp → VK → Prop := fun xs H Q =>
  ∃ (l : Addr) (ns : List Int), xs = [.ref l] ∧ SqL K H l (ns.map V.int) ∧ ns.length ≤ 4000 ∧
    ∀ (p : Addr) (c : Nat) (L : List Int), L.Nodup → L.length = c → (∀ k ∈ L, k ∈ ns) → H p = none → Q (.ref p) (upd H p (SetO w p (fun j => decide (j ∈ ns)) c))
theorem call_setI (hc : X.calm = true) : CallR X (.type "set") (rSetI X.w X.K) := by
  intro pins s σ H xs us Q I r h
  obtain ⟨l, ns, rfl, hl, hn, q⟩ := h
  obtain ⟨u1, rfl, r1⟩ := vals1 r
  cases r1
  obtain ⟨its, rv, pl, hz⟩ := I.list hl
  refine set_of_list ns (I.ok.hd hc) pl.isList (by simpa using ints_of rv) (by unfold scanBound; omega) fun h' tk c hR hc' k => ?_
  have hf : H s.heap.objs.size = none := I.hok.fresh (Nat.le_refl _)
  have hR2 := hR
  obtain ⟨o, es, ep, t, ho, e1, e2, e3, e4, e5, e6, e7, e8, -⟩ := hR2
  refine ⟨.ref s.heap.objs.size, _, I.laid (t' := tk) k (Nat.le_refl _) (setO_new hR), rfl, q _ c _ e4 ?_ (fun j hj => ?_) hf⟩
  · rw [List.length_map, Array.length_toList, e8]
  · exact of_decide_eq_true ((e5 j).mpr hj)
end
end KR
end
section
set_option maxRecDepth 100000
set_option maxHeartbeats 4000000
/-! Rules of one's own: for k, v in d.items(), d locked, its keys tuples. -/
namespace KR
open PySem PySem.Spec PyProof.Rows L2
/-- each turn's pair is a new tuple; the key's own tuple stands at q -/
def Itit (d : Addr) (o : Obj) (kvs : List (List L2.Key × V)) : It :=
  ⟨fun i H => H d = some (.frz o (.dT kvs)) ∧ i < kvs.length,
   fun i H x H' => ∃ (T q : Addr) (k : List L2.Key) (v : V), kvs[i]? = some (k, v) ∧ x = .ref T ∧ H T = none ∧ H q = some (.tup (k.map kV)) ∧ H' = upd H T (.tup [.ref q, v]),
   fun i H => H d = some (.frz o (.dT kvs)) ∧ kvs.length ≤ i⟩
section
variable {X : Cx} {pins : List (Addr × Obj)} {σ : L2.St} {H : Hp} {s : Shared} {d : Addr} {o : Obj}
theorem frz_items {kvs : List (List L2.Key × V)} (I : Inv X pins σ H s) (h : H d = some (.frz o (.dT kvs))) :
    (d == sysModules) = false ∧ ∃ (es : Array DictEntry) (ep : Nat), o.data = .dict es ep ∧ s.heap.DictRaw d es ep ∧ es.size = kvs.length ∧
      ∀ (i : Nat) (hi : i < es.size) (k : List L2.Key) (v : V), kvs[i]? = some (k, v) → ∃ q : Addr, es[i].key = .ref q ∧ H q = some (.tup (k.map kV)) ∧ RelV v es[i].val := by
  obtain ⟨hd, z, hs, xs, pr, o', es, ep, ho, hx, hdt, he, _⟩ := I.hok d _ h
  rw [hd] at ho
  cases ho
  have l1 : es.size = xs.length := size_of_entries he
  have l2 : kvs.length = xs.length := Paired.length pr
  refine ⟨hs, es, ep, hdt, ⟨o, hd, hx, hdt⟩, by omega, fun i hi k v e => ?_⟩
  obtain ⟨b, hb, e1, e2, e3⟩ := paired_get pr e
  have q := entry_at he i
  rw [hb, Array.getElem?_eq_getElem hi] at q
  have q' : es[i] = entryOfKey (tupleKind (mixKind X.prog X.w)) b := Option.some.inj q
  refine ⟨b.2.1, by rw [q'] <;> rfl, e2, by rw [q']; exact e3⟩
end
section
variable {P : Program} {w : World} {K : PySem.W.Frag} {tg : Expr} {d : Addr} {o : Obj} {es : Array DictEntry} {ep : Nat}
theorem turn_itemsT {kvs : List (List L2.Key × V)} {elts : List Expr} {kk : Nat} {tpos : Pos} (it : Addr) (hod : o.data = .dict es ep) :
    Turn P w K (.Tuple elts kk tpos) (Itit d o kvs) [it] it (fun i h => ∃ ok ov, IsItemIter h it d i kvs.length ep ok ov) where
  mem := List.mem_singleton.mpr rfl
  obj := fun i h st b hb => by
    obtain rfl : b = it := List.mem_singleton.mp hb
    obtain ⟨_, _, e⟩ := st
    exact ⟨_, e, fun v z => nomatch z⟩
  keep := fun i h h' st k => by
    obtain ⟨u, v, e⟩ := st
    exact ⟨u, v, k it (List.mem_singleton.mpr rfl) _ e⟩
  item := by
    intro X hP hw hK hc i pins s σ H E I hf st hg
    subst hP hw hK
    obtain ⟨hd, hi⟩ := hg
    obtain ⟨hs, es', ep', hdt, raw, hsz, ent⟩ := frz_items I hd
    obtain ⟨rfl, rfl⟩ := dict_ep hod hdt
    have hi' : i < es'.size := by omega
    obtain ⟨⟨k, v⟩, hkv⟩ : ∃ p, kvs[i]? = some p := ⟨kvs[i], List.getElem?_eq_getElem hi⟩
    obtain ⟨q, ek, hq, rv⟩ := ent i hi' k v hkv
    obtain ⟨ok, ov, he⟩ := st
    rw [← hsz] at he
    have hlt : it < s.heap.objs.size := Heap.lt_size he
    refine wpAny_pyNext_items_item_raw he raw hi' fun h' ho hT hz hk => ?_
    refine ⟨_, rfl, wpAny_letOwnedTupleGo_items (s := { s with heap := h' }) ho fun h'' he' sb => ?_⟩
    have hT2 := (sb.2 _ (Nat.ne_of_gt hlt)).trans hT
    have new : ObjOk X.prog X.w (upd H s.heap.objs.size (.tup [.ref q, v])) h'' s.heap.objs.size (.tup [.ref q, v]) :=
      ⟨by show 2 ≤ sizeLine; decide, [es'[i].key, es'[i].val], .cons ek (.cons rv .nil), ⟨_, hT2, rfl, _, rfl⟩⟩
    have I1 : Inv X pins σ (upd H s.heap.objs.size (.tup [.ref q, v])) { s with heap := h'' } :=
      I.turnedNew (t' := s.toks) (ch := [it]) (fun b ob hb e => (sb.2 b (fun z => hb (List.mem_singleton.mpr z))).trans (hk b ob (fun z => hb (List.mem_singleton.mpr z)) e)) hf (Nat.le_refl _) new
    refine ⟨.ref s.heap.objs.size, _, I1, rfl, ⟨_, q, k, v, hkv, rfl, I.hok.fresh (Nat.le_refl _), hq, rfl⟩, ⟨es'[i].key, es'[i].val, ?_⟩, fun b hb => ?_⟩
    · rw [← hsz]
      exact he'
    · obtain rfl : b = it := List.mem_singleton.mp hb
      rw [upd_ne (Nat.ne_of_lt hlt)]
      exact (hf b (List.mem_singleton.mpr rfl)).1
  done := by
    intro X hP hw hK hc i pins s σ H E I hf st hg
    subst hP hw hK
    obtain ⟨hd, hi⟩ := hg
    obtain ⟨f0, f1, f2, f3, f4, f5⟩ := hf it (List.mem_singleton.mpr rfl)
    obtain ⟨hs, es', ep', hdt, raw, hsz, ent⟩ := frz_items I hd
    obtain ⟨rfl, rfl⟩ := dict_ep hod hdt
    obtain ⟨ok, ov, he⟩ := st
    rw [← hsz] at he
    exact wpAny_pyNext_items_end_raw (I.ok.hd hc) he raw (by omega) fun h' eb => ⟨rfl, I.turned (t' := s.toks) (fun b ob hb e => eb b ob hb e) f0 f1 f3 f4 f5⟩
  self := fun A i s Q E st h => by
    obtain ⟨_, _, e⟩ := st
    exact PySem.W.kcp_self e h
end
def iItemsT (td : TE) : TI := fun σ H R => td σ H fun x H1 => ∃ d o kvs, x = .ref d ∧ H1 d = some (.frz o (.dT kvs)) ∧ R (Itit d o kvs) H1
section
variable {X : Cx} {e : Expr} {td : TE} {apos cpos : Pos}
theorem pi_itemsT {elts : List Expr} {kk : Nat} {tpos : Pos} (he : PE X e td) (hbase : attributeBase e "items" X.env (eval e X.env) = eval e X.env := by rfl)
    (hline : (apos.endLine == cpos.line) = true := by rfl) : PI X (.Tuple elts kk tpos) (.Call (.Attribute e "items" apos) [] [] cpos) (iItemsT td) := by
  refine ⟨fun pins s σ H R I h => ?_⟩
  refine wpAny_Call_method (T := "dict") (id := "dict.items") hbase rfl hline PySem.F.plainAttrs_dict PySem.F.slot_dict_items PySem.F.type_dict_items
    (thn (he.run pins s σ H _ I h) fun u s1 ⟨x, H1, I1, rx, d, o, kvs, ex, hd, q⟩ => ?_)
  subst ex
  obtain rfl : u = Value.ref d := rx
  obtain ⟨hs, es, ep, hdt, raw, hsz, ent⟩ := frz_items I1 hd
  have I2 : Inv X pins σ H1 { s1 with heap := s1.heap.push { cls := .type "dict_items", data := .fields #[.ref d] } } :=
    I1.kept (t' := s1.toks) fun b ob q => Heap.get?_push_of_some _ q
  have raw2 : Heap.DictRaw (s1.heap.push { cls := .type "dict_items", data := .fields #[.ref d] }) d es ep := raw.at fun _ q => Heap.get?_push_of_some _ q
  have fin : wpAny (model X.prog X.w) X.A (pyIter (.ref s1.heap.objs.size)) (PIE X pins σ (.Tuple elts kk tpos) R) X.xe
      { s1 with heap := s1.heap.push { cls := .type "dict_items", data := .fields #[.ref d] } } := by
    refine wpAny_pyIter_items_raw (d := d) ⟨_, Heap.get?_push_size _ rfl, rfl, rfl⟩ raw2
      (pi_one (tk := s1.toks) I2 _ (turn_itemsT _ hdt) ⟨.none, .none, ?_⟩ q)
    rw [← hsz]
    exact Heap.get?_push_size _ rfl
  have ty : s1.TypeIs (.ref d) "dict" := raw.typeIs
  refine ⟨ty, ?_, ?_⟩
  · obtain ⟨od, h1, h2, h3⟩ := raw
    intro b eb
    cases eb
    exact ⟨od, h1, h2.2.1⟩
  · show wpAny _ _ (callWith cpos (.builtin "dict.items") [.ref d] [] []) _ X.xe s1
    exact method_meetsIn PySem.F.slot_dict_items PySem.F.entry_dict_items rfl
      (PySem.evalArgs_none ⟨rfl, ty, PySem.F.args_dict_items_1 _, _, meets_dict_items_raw d hs, ⟨⟨es, ep, raw⟩, fin⟩⟩)
end
end KR
end
section
set_option maxRecDepth 100000
set_option maxHeartbeats 4000000
/-! Rules of one's own: sorted(d), d a dict whose keys are tuples of digits, all of one length. -/
namespace KR
open PySem PySem.Spec PyProof.Rows L2
theorem perm_of_map {α β : Type} {f : α → β} {l k : List β} (p : l.Perm k) : ∀ {m : List α}, k = m.map f → ∃ m' : List α, m'.Perm m ∧ l = m'.map f := by
  induction p with
  | nil =>
    intro m e
    have : m = [] := by
      cases m with
      | nil => rfl
      | cons a r => cases e
    exact ⟨[], by rw [this], rfl⟩
  | @cons x l1 l2 p ih =>
    intro m e
    cases m with
    | nil => cases e
    | cons a r =>
      have e1 := (List.cons.inj e).1
      obtain ⟨m', h1, h2⟩ := ih (List.cons.inj e).2
      exact ⟨a :: m', h1.cons a, by rw [List.map_cons, h2, e1]⟩
  | swap x y l =>
    intro m e
    cases m with
    | nil => cases e
    | cons a r =>
      cases r with
      | nil => cases (List.cons.inj e).2
      | cons b t =>
        have e1 := (List.cons.inj e).1
        have e2 := (List.cons.inj (List.cons.inj e).2).1
        have e3 := (List.cons.inj (List.cons.inj e).2).2
        exact ⟨b :: a :: t, List.Perm.swap a b t, by rw [List.map_cons, List.map_cons, e1, e2, e3]⟩
  | trans p q ih1 ih2 =>
    intro m e
    obtain ⟨m2, h1, h2⟩ := ih2 e
    obtain ⟨m1, h3, h4⟩ := ih1 h2
    exact ⟨m1, h3.trans h1, h4⟩
/-- a key of whole numbers not below 0 -/
abbrev kI (k : List Nat) : List L2.Key := k.map fun (n : Nat) => Sum.inl (n : Int)
abbrev vI (k : List Nat) : List V := k.map fun (n : Nat) => V.int (n : Int)
theorem kI_vI (k : List Nat) : (kI k).map kV = vI k := by
  rw [List.map_map]
  rfl
def codeN (k : List Nat) : Int := TS.code 10 (k.map fun (n : Nat) => (n : Int))
def rSortedDT : List V → Hp → VK → Prop := fun vs H Q =>
  ∃ (a : Addr) (kvs : List (List L2.Key × V)) (ks : List (List Nat)) (d : Nat), vs = [.ref a] ∧ H a = some (.dT kvs) ∧ kvs.map (·.1) = ks.map kI ∧ ks.length < 64 ∧
    (∀ k ∈ ks, k.length = d ∧ ∀ n ∈ k, n < 10) ∧ (d = 0 → ks.length < 2) ∧
    ∀ (ys : List (Addr × List Nat)) (p : Addr), (ys.map (·.2)).Perm ks → (∀ y ∈ ys, H y.1 = some (.tup (vI y.2))) → (1 ≤ d → ys.Pairwise (fun y z => codeN y.2 ≤ codeN z.2)) → H p = none →
      Q (.ref p) (upd H p (.lst (ys.map fun y => V.ref y.1)))
section
variable {X : Cx}
theorem kt_list {H : Hp} : ∀ {kvs : List (List L2.Key × V)} {xs : List (List L2.Key × Addr × Value)} {ks : List (List Nat)}, KT H kvs xs → kvs.map (·.1) = ks.map kI →
    ∃ L : List (Addr × List Nat), L.map (·.2) = ks ∧ xs.map (fun x => x.2.1) = L.map (·.1) ∧ ∀ y ∈ L, H y.1 = some (.tup (vI y.2)) := by
  intro kvs xs ks r
  induction r generalizing ks with
  | nil =>
    intro e
    have : ks = [] := by
      cases ks with
      | nil => rfl
      | cons a r => cases e
    exact ⟨[], this.symm, rfl, fun _ h => nomatch h⟩
  | @cons p q ps qs h t ih =>
    intro e
    cases ks with
    | nil => cases e
    | cons k r =>
      have e1 : p.1 = kI k := (List.cons.inj e).1
      obtain ⟨L, h1, h2, h3⟩ := ih (List.cons.inj e).2
      refine ⟨(q.2.1, k) :: L, by rw [List.map_cons, h1], by rw [List.map_cons, List.map_cons, h2], fun y hy => ?_⟩
      rcases List.mem_cons.mp hy with ey | hy
      · rw [ey]
        have z := h.2.1
        rw [e1, kI_vI] at z
        exact z
      · exact h3 y hy
theorem call_sortedDT (hcalm : X.calm = true) : CallR X (.builtin "sorted") rSortedDT := by
  intro pins s σ H xs us Q I r q
  obtain ⟨a, kvs, ks, d, rfl, hd, hks, h64, hk, h0, q⟩ := q
  obtain ⟨u, rfl, rx⟩ := vals1 r
  cases rx
  obtain ⟨z, lo, xs', rel, dd⟩ := dt_of I.hok hd
  obtain ⟨L, hL1, hL2, hL3⟩ := kt_list rel hks
  obtain ⟨o, es, ep, ho, hx, hdt, he, his, hn⟩ := id dd
  have raw : s.heap.DictRaw a es ep := ⟨o, ho, hx, hdt⟩
  have lx : es.size = L.length := by
    have e1 : es.size = xs'.length := size_of_entries he
    have e2 := congrArg List.length hL2
    rw [List.length_map, List.length_map] at e2
    omega
  have lk : L.length = ks.length := by
    have e2 := congrArg List.length hL1
    rw [List.length_map] at e2
    exact e2
  refine Calls.call_function_entry PyProof.Rows.kind_sorted PyProof.Rows.plain_sorted PyProof.Rows.entry_sorted (PyProof.Rows.args_sorted1 _) ?_
  unfold Builtin.«sorted»
  refine wpAny_bind (m := checkCount "sorted" 1 1 _) (wpAny_pure ?_)
  refine wpAny_bind (PySem.W.kdu_collect (A := X.A.in1) (KdlSrc.rawDict (ep := ep) lo) (I.ok.hd hcalm) raw (by rw [lx, lk, sizeLine_eq]; omega) fun h' tk acc hkp hacc => ?_)
  have eacc : acc.toList = L.map fun y => Value.ref y.1 := by
    apply List.ext_getElem?
    intro i
    rw [List.getElem?_map]
    by_cases hi : i < L.length
    · have hi' : i < acc.toList.length := by rw [Array.length_toList, hacc.1, lx]; exact hi
      obtain ⟨hi2, ev⟩ := hacc.2 i acc.toList[i] (by rw [← Array.getElem?_toList]; exact List.getElem?_eq_getElem hi')
      have en := entry_at he i
      have hx' : i < xs'.length := by
        have e1 : es.size = xs'.length := size_of_entries he
        omega
      rw [List.getElem?_eq_getElem hx', Array.getElem?_eq_getElem hi2] at en
      have en' : es[i] = entryOfKey (tupleKind (mixKind X.prog X.w)) xs'[i] := Option.some.inj en
      have e3 : (xs'.map (fun x => x.2.1))[i]? = (L.map (·.1))[i]? := by rw [hL2]
      rw [List.getElem?_map, List.getElem?_map, List.getElem?_eq_getElem hx', List.getElem?_eq_getElem hi] at e3
      have e4 : xs'[i].2.1 = L[i].1 := Option.some.inj e3
      rw [List.getElem?_eq_getElem hi', List.getElem?_eq_getElem hi, ev, en']
      show some (Value.ref xs'[i].2.1) = some (Value.ref L[i].1)
      rw [e4]
    · have h1 : acc.toList.length ≤ i := by rw [Array.length_toList, hacc.1, lx]; omega
      rw [List.getElem?_eq_none h1, List.getElem?_eq_none (by omega)]
      rfl
  have I1 : Inv X pins σ H { s with heap := h', toks := tk } := I.kept hkp
  have hal : acc.toList.length = ks.length := by rw [eacc, List.length_map, lk]
  refine wpAny_bind (wpAny_newList ?_ (by rw [hal, sizeLine_eq]; omega))
  have hoL : (h'.push (seqObj "list" acc.toList.toArray 0)).get? h'.objs.size = some (seqObj "list" acc.toList.toArray 0) := Heap.get?_push_size _ rfl
  show wpAny _ _ _ _ _ { s with heap := h'.push (seqObj "list" acc.toList.toArray 0), toks := tk }
  have fin : ∀ out : Array Value, out.toList.Perm acc.toList → (1 ≤ d → out.toList.Pairwise (fun u v => TS.code 10 (TS.intsOf h' u) ≤ TS.code 10 (TS.intsOf h' v))) →
      ∃ v H', Inv X pins σ H' { s with heap := sortedHeap (h'.push (seqObj "list" acc.toList.toArray 0)) h'.objs.size acc.toList out, toks := tk } ∧ RelV v (Value.ref h'.objs.size) ∧ Q v H' := by
    intro out p pw
    obtain ⟨ys, py, ey⟩ := perm_of_map p eacc
    have hys : ∀ y ∈ ys, H y.1 = some (.tup (vI y.2)) := fun y hy => hL3 y (py.mem_iff.mp hy)
    obtain ⟨e', he'⟩ := PyProof.Rows.sortedHeap_at (vs := acc.toList) (out := out) hoL
    have hlen : (ys.map fun y => V.ref y.1).length ≤ sizeLine := by
      rw [List.length_map, py.length_eq, lk, sizeLine_eq]
      omega
    have rv : Vals (ys.map fun y => V.ref y.1) out.toList := by
      rw [ey]
      clear ey py hys hlen p pw
      induction ys with
      | nil => exact .nil
      | cons y t ih => exact .cons rfl ih
    refine ⟨.ref h'.objs.size, upd H h'.objs.size (.lst (ys.map fun y => V.ref y.1)), I1.laid (t' := tk) (fun b u e => ?_) (Nat.le_refl _)
      (show ObjOk X.prog X.w _ _ _ (.lst (ys.map fun y => V.ref y.1)) from ⟨hlen, out.toList, e', rv, by rw [Array.toArray_toList]; exact he'⟩), rfl,
      q ys _ (by rw [← hL1]; exact py.map _) hys (fun h1 => ?_) (I1.hok.fresh (Nat.le_refl _))⟩
    · have hb : b < h'.objs.size := Heap.lt_size e
      rw [PyProof.Rows.sortedHeap_old (Nat.ne_of_lt hb) (by rw [size_push']; exact Nat.lt_succ_of_lt hb)]
      exact Heap.get?_push_of_some _ e
    · have pw' := pw h1
      rw [ey, List.pairwise_map] at pw'
      refine pw'.imp_of_mem fun {y z} hy hz h => ?_
      have i1 : TS.intsOf h' (Value.ref y.1) = y.2.map fun (n : Nat) => (n : Int) := (tupI_raw (ns := y.2.map fun (n : Nat) => (n : Int)) I1 (by
        rw [List.map_map]
        exact SqT.of (hys y hy))).ints
      have i2 : TS.intsOf h' (Value.ref z.1) = z.2.map fun (n : Nat) => (n : Int) := (tupI_raw (ns := z.2.map fun (n : Nat) => (n : Int)) I1 (by
        rw [List.map_map]
        exact SqT.of (hys z hz))).ints
      rw [i1, i2] at h
      exact h
  by_cases d1 : 1 ≤ d
  · have ok : TS.TupsOk (h'.push (seqObj "list" acc.toList.toArray 0)) d 10 acc.toList := by
      intro v hv
      rw [eacc] at hv
      obtain ⟨y, hy, rfl⟩ := List.mem_map.mp hv
      have hk2 := hk y.2 (by rw [← hL1]; exact List.mem_map.mpr ⟨y, hy, rfl⟩)
      have ti := tupI_raw (ns := y.2.map fun (n : Nat) => (n : Int)) I1 (t := y.1) (by
        rw [List.map_map]
        exact SqT.of (hL3 y hy))
      refine ⟨_, ti.keeps fun b o e _ => Heap.get?_push_of_some _ e, by rw [List.length_map]; exact hk2.1, fun m hm => ?_⟩
      obtain ⟨n, hn, rfl⟩ := List.mem_map.mp hm
      have := hk2.2 n hn
      omega
    refine wpAny_bind (wpAny_holding (wpAny_call_entry PyProof.Rows.slot_list_sort ⟨_, hoL, rfl⟩ PyProof.Rows.entry_list_sort
      (TS.sort_tups (s := { s with heap := h'.push (seqObj "list" acc.toList.toArray 0), toks := tk }) hoL (by rw [hal]; exact h64) d1 ok (fun v => TS.code 10 (TS.intsOf h' v)) (fun v hv ns t => ?_) fun out a1 a2 => ⟨_, rfl, ?_⟩) (PyProof.Rows.args_list_sort _)))
    · obtain ⟨ns0, t0, _⟩ := ok v hv
      rw [eacc] at hv
      obtain ⟨y, hy, rfl⟩ := List.mem_map.mp hv
      have ti := tupI_raw (ns := y.2.map fun (n : Nat) => (n : Int)) I1 (t := y.1) (by
        rw [List.map_map]
        exact SqT.of (hL3 y hy))
      have e1 := (ti.keeps (h' := h'.push (seqObj "list" acc.toList.toArray 0)) fun b o e _ => Heap.get?_push_of_some _ e).ints
      have e2 := t.ints
      have e3 := ti.ints
      show TS.code 10 (TS.intsOf h' (Value.ref y.1)) = TS.code 10 ns
      rw [e3, ← e2, ← e1]
    · exact wpAny_pure ⟨_, rfl, fin out a1 fun _ => a2⟩
  · have hs2 : acc.toList.length < 2 := by rw [hal]; exact h0 (by omega)
    refine wpAny_bind (wpAny_holding (wpAny_call_entry PyProof.Rows.slot_list_sort ⟨_, hoL, rfl⟩ PyProof.Rows.entry_list_sort
      (SrtO.list_sort_ord (s := { s with heap := h'.push (seqObj "list" acc.toList.toArray 0), toks := tk }) (ltv := fun _ _ => false) ⟨fun _ _ h => (nomatch h), fun _ _ _ _ _ => rfl⟩ hoL (by rw [sizeLine_eq]; omega) (fun h2 => absurd h2 (by omega)) fun out _ hb => ⟨_, rfl, ?_⟩) (PyProof.Rows.args_list_sort _)))
    exact wpAny_pure ⟨_, rfl, fin out.toArray (by simpa using hb.perm) fun h => absurd h d1⟩
end
end KR
end
section
/-! Rules of the layer that speak of X.K, with K given by name (within comprehensions and tries). -/
namespace KR
open PySem PySem.Spec PyProof.Rows L2
theorem pe_fldK {X : Cx} {K : PySem.W.Frag} {e : Expr} {f : Str} {pos : Pos} {ta : TE} (he : PE X e ta) (hb : attributeBase e f X.env (eval e X.env) = eval e X.env) (hK : X.K = K := by rfl) : PE X (.Attribute e f pos) (tFld K ta f) := by
  subst hK
  exact pe_fld he hb
theorem ix_listK {X : Cx} {K : PySem.W.Frag} (hK : X.K = K := by rfl) : IxR X (rIxL K) := by
  subst hK
  exact ix_list
theorem ix_tupK {X : Cx} {K : PySem.W.Frag} (hK : X.K = K := by rfl) : IxR X (rIxT K) := by
  subst hK
  exact ix_tup
theorem pg_tupK {X : Cx} {K : PySem.W.Frag} {es : List Expr} {k : Nat} {pos : Pos} {t : TGs} {n : Nat} (hc : X.calm = true) (h : PGs X es t) (hK : X.K = K := by rfl)
    (hn : (assignEach es X.env).length = n := by rfl) (hst : (assignEach es X.env).findIdx? (·.1) = none := by rfl) : PG X (.Tuple es k pos) (gTup K n t) := by
  subst hK
  exact pg_tup hc h hn hst
end KR
end
section
set_option maxRecDepth 100000
set_option maxHeartbeats 4000000
namespace KR
open PySem PySem.Spec PyProof.Rows L2
theorem hashInt_digit : ∀ d : Nat, d < 10 → hashInt (d : Int) = (d : Int) := by decide +kernel
theorem digit_lane {acc d : Nat} (h : d < 10) : ((acc + ((hashInt (d : Int)) % ((2 ^ 64 : Nat) : Int)).toNat * 14029467366897019727) % 2 ^ 64 * 2 ^ 31 % 2 ^ 64 + (acc + ((hashInt (d : Int)) % ((2 ^ 64 : Nat) : Int)).toNat * 14029467366897019727) % 2 ^ 64 / 2 ^ 33) * 11400714785074694791 % 2 ^ 64 = stepH acc d := by
  rw [hashInt_digit d h]
  have e : ((d : Int) % ((2 ^ 64 : Nat) : Int)).toNat = d := by
    have : ((d : Int) % ((2 ^ 64 : Nat) : Int)) = (d : Int) := Int.emod_eq_of_lt (by omega) (by omega)
    rw [this]
    rfl
  rw [e]
  rfl
theorem fold_lane : ∀ (k : List Nat) (acc : Nat), (∀ d ∈ k, d < 10) → (k.map fun (d : Nat) => hashInt (d : Int)).foldl (fun acc h =>
      ((acc + (h % ((2 ^ 64 : Nat) : Int)).toNat * 14029467366897019727) % 2 ^ 64 * 2 ^ 31 % 2 ^ 64 + (acc + (h % ((2 ^ 64 : Nat) : Int)).toNat * 14029467366897019727) % 2 ^ 64 / 2 ^ 33) * 11400714785074694791 % 2 ^ 64) acc = k.foldl stepH acc
  | [], _, _ => by
    rw [List.map_nil, List.foldl_nil, List.foldl_nil]
  | d :: r, acc, h => by
    rw [List.map_cons, List.foldl_cons, List.foldl_cons, digit_lane (h d List.mem_cons_self)]
    exact fold_lane r _ fun e m => h e (List.mem_cons_of_mem _ m)
theorem reduce_small {i : Int} (h1 : -9223372036854775808 ≤ i) (h2 : i < 9223372036854775808) : reduceHash i = if i = -1 then -2 else i := by
  unfold reduceHash
  rw [if_pos (by
    rw [Bool.and_eq_true, decide_eq_true_eq, decide_eq_true_eq]
    exact ⟨h1, h2⟩)]
  by_cases h : i = -1
  · rw [if_pos h, if_pos (by rw [h] <;> rfl)]
  · rw [if_neg h, if_neg (by rw [beq_iff_eq]; exact h)]
theorem reduce_of (z : Nat) (l : z < 18446744073709551616) :
    reduceHash (if z = 18446744073709551615 then 1546275796 else if z < 9223372036854775808 then (z : Int) else (z : Int) - 18446744073709551616) =
      (let r : Int := if z = 18446744073709551615 then 1546275796 else if z < 9223372036854775808 then (z : Int) else (z : Int) - 18446744073709551616
       if r = -1 then -2 else r) := by
  refine reduce_small ?_ ?_
  · split
    · decide
    · split <;> omega
  · split
    · decide
    · split <;> omega
theorem hash_key (P : Program) (w : World) {k : List Nat} (hd : ∀ d ∈ k, d < 10) : (tupleKind (mixKind P w)).hash (kI k) = outH k.length (foldH k) := by
  have e1 : (kI k).map (mixKind P w).hash = k.map fun (d : Nat) => hashInt (d : Int) := by
    rw [List.map_map]
    rfl
  show reduceHash (Builtin.Tuple.tupleHashOf ((kI k).map (mixKind P w).hash)) = _
  rw [e1]
  have f := fold_lane k startH hd
  unfold Builtin.Tuple.tupleHashOf
  dsimp only
  rw [List.length_map]
  have f2 : (k.map fun (d : Nat) => hashInt (d : Int)).foldl (fun acc h =>
      ((acc + (h % ((2 ^ 64 : Nat) : Int)).toNat * 14029467366897019727) % 2 ^ 64 * 2 ^ 31 % 2 ^ 64 + (acc + (h % ((2 ^ 64 : Nat) : Int)).toNat * 14029467366897019727) % 2 ^ 64 / 2 ^ 33) * 11400714785074694791 % 2 ^ 64) 2870177450012600261 = foldH k := f
  rw [f2]
  clear f f2 e1
  generalize foldH k = a
  unfold outH endH
  generalize (k.length ^^^ (2870177450012600261 ^^^ 3527539)) = c
  have l : (a + c) % 18446744073709551616 < 18446744073709551616 := Nat.mod_lt _ (by decide)
  show reduceHash (if ((a + c) % 18446744073709551616 == 18446744073709551615) = true then 1546275796 else if (a + c) % 18446744073709551616 < 9223372036854775808 then (((a + c) % 18446744073709551616 : Nat) : Int) else (((a + c) % 18446744073709551616 : Nat) : Int) - 18446744073709551616) = _
  generalize (a + c) % 18446744073709551616 = z at l
  simp only [beq_iff_eq]
  exact reduce_of z l
/-- keys of digits, all of one length, hash apart -/
theorem hash_apart (P : Program) (w : World) {l : List (List Nat)} {n : Nat} (hn : n ≤ 4) (h : ∀ k ∈ l, k.length = n ∧ ∀ d ∈ k, d < 10) (nd : l.Nodup) : (l.map fun k => (tupleKind (mixKind P w)).hash (kI k)).Nodup := by
  induction l with
  | nil => exact List.nodup_nil
  | cons k r ih =>
    obtain ⟨h1, h2⟩ := List.nodup_cons.mp nd
    rw [List.map_cons]
    refine List.nodup_cons.mpr ⟨fun m => ?_, ih (fun k m => h k (List.mem_cons_of_mem _ m)) h2⟩
    obtain ⟨k', m', e⟩ := List.mem_map.mp m
    obtain ⟨a1, a2⟩ := h k List.mem_cons_self
    obtain ⟨b1, b2⟩ := h k' (List.mem_cons_of_mem _ m')
    rw [hash_key P w a2, hash_key P w b2, a1, b1] at e
    exact h1 (by rw [← outH_inj hn b1 a1 b2 a2 e]; exact m')
end KR
end
section
set_option maxRecDepth 100000
set_option maxHeartbeats 4000000
/-! The text by places, the addresses, what the top has written. Printed by gendefs.py. -/
namespace KR
open PySem PySem.Spec PyProof.Rows L2
def top (i : Nat) : Stmt := PySem.Challenge.pw_keptready_s01_answers.main.body.getD i (.Pass ⟨0, 0, 0, 0⟩)
abbrev s_columns_of : Stmt := top 1
abbrev N_columns_of : List Str := ["grouping", "k"]
abbrev P_columns_of : List Str := ["grouping"]
theorem sc_columns_of : FnScope N_columns_of P_columns_of (defScope s_columns_of) := ⟨rfl, rfl, rfl, by decide +kernel, rfl, by decide +kernel, by decide +kernel⟩
abbrev s_has_all : Stmt := top 2
abbrev N_has_all : List Str := ["grouping", "other"]
abbrev P_has_all : List Str := ["grouping", "other"]
theorem sc_has_all : FnScope N_has_all P_has_all (defScope s_has_all) := ⟨rfl, rfl, rfl, by decide +kernel, rfl, by decide +kernel, by decide +kernel⟩
abbrev s_group_of : Stmt := top 3
abbrev N_group_of : List Str := ["values", "grouping", "k"]
abbrev P_group_of : List Str := ["values", "grouping"]
theorem sc_group_of : FnScope N_group_of P_group_of (defScope s_group_of) := ⟨rfl, rfl, rfl, by decide +kernel, rfl, by decide +kernel, by decide +kernel⟩
abbrev s_with_more : Stmt := top 4
abbrev N_with_more : List Str := ["answer", "group", "summed", "many", "found", "old"]
abbrev P_with_more : List Str := ["answer", "group", "summed", "many"]
theorem sc_with_more : FnScope N_with_more P_with_more (defScope s_with_more) := ⟨rfl, rfl, rfl, by decide +kernel, rfl, by decide +kernel, by decide +kernel⟩
abbrev s_answer_of : Stmt := top 5
abbrev N_answer_of : List Str := ["rows", "grouping", "found", "values", "summed"]
abbrev P_answer_of : List Str := ["rows", "grouping"]
theorem sc_answer_of : FnScope N_answer_of P_answer_of (defScope s_answer_of) := ⟨rfl, rfl, rfl, by decide +kernel, rfl, by decide +kernel, by decide +kernel⟩
abbrev s_worked_out : Stmt := top 6
abbrev N_worked_out : List Str := ["answer", "grouping", "wanted", "places", "found", "group", "line", "place", "column"]
abbrev P_worked_out : List Str := ["answer", "grouping", "wanted"]
theorem sc_worked_out : FnScope N_worked_out P_worked_out (defScope s_worked_out) := ⟨rfl, rfl, rfl, by decide +kernel, rfl, by decide +kernel, by decide +kernel⟩
abbrev s_lines_told : Stmt := top 7
abbrev N_lines_told : List Str := ["answer", "found", "group"]
abbrev P_lines_told : List Str := ["answer"]
theorem sc_lines_told : FnScope N_lines_told P_lines_told (defScope s_lines_told) := ⟨rfl, rfl, rfl, by decide +kernel, rfl, by decide +kernel, by decide +kernel⟩
abbrev s_Kept_init : Stmt := inClass (top 13) 0
abbrev N_Kept_init : List Str := ["self", "lines_kept", "made"]
abbrev P_Kept_init : List Str := ["self", "lines_kept", "made"]
theorem sc_Kept_init : FnScope N_Kept_init P_Kept_init (defScope s_Kept_init) := ⟨rfl, rfl, rfl, by decide +kernel, rfl, by decide +kernel, by decide +kernel⟩
abbrev s_Store_init : Stmt := inClass (top 14) 0
abbrev N_Store_init : List Str := ["self", "many", "rows"]
abbrev P_Store_init : List Str := ["self", "many", "rows"]
theorem sc_Store_init : FnScope N_Store_init P_Store_init (defScope s_Store_init) := ⟨rfl, rfl, rfl, by decide +kernel, rfl, by decide +kernel, by decide +kernel⟩
abbrev s_Store_rows_now : Stmt := inClass (top 14) 1
abbrev N_Store_rows_now : List Str := ["self"]
abbrev P_Store_rows_now : List Str := ["self"]
theorem sc_Store_rows_now : FnScope N_Store_rows_now P_Store_rows_now (defScope s_Store_rows_now) := ⟨rfl, rfl, rfl, by decide +kernel, rfl, by decide +kernel, by decide +kernel⟩
abbrev s_Store_is_grouping : Stmt := inClass (top 14) 2
abbrev N_Store_is_grouping : List Str := ["self", "number"]
abbrev P_Store_is_grouping : List Str := ["self", "number"]
theorem sc_Store_is_grouping : FnScope N_Store_is_grouping P_Store_is_grouping (defScope s_Store_is_grouping) := ⟨rfl, rfl, rfl, by decide +kernel, rfl, by decide +kernel, by decide +kernel⟩
abbrev s_Store_put : Stmt := inClass (top 14) 3
abbrev N_Store_put : List Str := ["self", "row"]
abbrev P_Store_put : List Str := ["self", "row"]
theorem sc_Store_put : FnScope N_Store_put P_Store_put (defScope s_Store_put) := ⟨rfl, rfl, rfl, by decide +kernel, rfl, by decide +kernel, by decide +kernel⟩
abbrev s_Store_take : Stmt := inClass (top 14) 4
abbrev N_Store_take : List Str := ["self", "number", "rows"]
abbrev P_Store_take : List Str := ["self", "number"]
theorem sc_Store_take : FnScope N_Store_take P_Store_take (defScope s_Store_take) := ⟨rfl, rfl, rfl, by decide +kernel, rfl, by decide +kernel, by decide +kernel⟩
abbrev s_Store_keep : Stmt := inClass (top 14) 5
abbrev N_Store_keep : List Str := ["self", "groupings", "found", "grouping"]
abbrev P_Store_keep : List Str := ["self", "groupings"]
theorem sc_Store_keep : FnScope N_Store_keep P_Store_keep (defScope s_Store_keep) := ⟨rfl, rfl, rfl, by decide +kernel, rfl, by decide +kernel, by decide +kernel⟩
abbrev s_Store_age : Stmt := inClass (top 14) 6
abbrev N_Store_age : List Str := ["self", "grouping"]
abbrev P_Store_age : List Str := ["self", "grouping"]
theorem sc_Store_age : FnScope N_Store_age P_Store_age (defScope s_Store_age) := ⟨rfl, rfl, rfl, by decide +kernel, rfl, by decide +kernel, by decide +kernel⟩
abbrev s_Store_since : Stmt := inClass (top 14) 7
abbrev N_Store_since : List Str := ["self", "grouping"]
abbrev P_Store_since : List Str := ["self", "grouping"]
theorem sc_Store_since : FnScope N_Store_since P_Store_since (defScope s_Store_since) := ⟨rfl, rfl, rfl, by decide +kernel, rfl, by decide +kernel, by decide +kernel⟩
abbrev s_Store_touched : Stmt := inClass (top 14) 8
abbrev N_Store_touched : List Str := ["self", "grouping", "changes", "way", "row"]
abbrev P_Store_touched : List Str := ["self", "grouping", "changes"]
theorem sc_Store_touched : FnScope N_Store_touched P_Store_touched (defScope s_Store_touched) := ⟨rfl, rfl, rfl, by decide +kernel, rfl, by decide +kernel, by decide +kernel⟩
abbrev s_Store_refresh : Stmt := inClass (top 14) 9
abbrev N_Store_refresh : List Str := ["self", "grouping", "answer", "way", "row"]
abbrev P_Store_refresh : List Str := ["self", "grouping"]
theorem sc_Store_refresh : FnScope N_Store_refresh P_Store_refresh (defScope s_Store_refresh) := ⟨rfl, rfl, rfl, by decide +kernel, rfl, by decide +kernel, by decide +kernel⟩
abbrev s_Store_lines : Stmt := inClass (top 14) 10
abbrev N_Store_lines : List Str := ["self", "grouping"]
abbrev P_Store_lines : List Str := ["self", "grouping"]
theorem sc_Store_lines : FnScope N_Store_lines P_Store_lines (defScope s_Store_lines) := ⟨rfl, rfl, rfl, by decide +kernel, rfl, by decide +kernel, by decide +kernel⟩
abbrev s_Store_read_from : Stmt := inClass (top 14) 11
abbrev N_Store_read_from : List Str := ["self", "grouping", "oldest", "some", "fewest", "one"]
abbrev P_Store_read_from : List Str := ["self", "grouping", "oldest"]
theorem sc_Store_read_from : FnScope N_Store_read_from P_Store_read_from (defScope s_Store_read_from) := ⟨rfl, rfl, rfl, by decide +kernel, rfl, by decide +kernel, by decide +kernel⟩
abbrev s_Store_answer_from : Stmt := inClass (top 14) 12
abbrev N_Store_answer_from : List Str := ["self", "source", "grouping"]
abbrev P_Store_answer_from : List Str := ["self", "source", "grouping"]
theorem sc_Store_answer_from : FnScope N_Store_answer_from P_Store_answer_from (defScope s_Store_answer_from) := ⟨rfl, rfl, rfl, by decide +kernel, rfl, by decide +kernel, by decide +kernel⟩
abbrev s_Store_cheapest : Stmt := inClass (top 14) 13
abbrev N_Store_cheapest : List Str := ["self", "grouping", "changes", "found", "one", "cost"]
abbrev P_Store_cheapest : List Str := ["self", "grouping"]
theorem sc_Store_cheapest : FnScope N_Store_cheapest P_Store_cheapest (defScope s_Store_cheapest) := ⟨rfl, rfl, rfl, by decide +kernel, rfl, by decide +kernel, by decide +kernel⟩
abbrev s_Fault_init : Stmt := inClass (top 32) 0
abbrev N_Fault_init : List Str := ["self", "code", "place"]
abbrev P_Fault_init : List Str := ["self", "code", "place"]
theorem sc_Fault_init : FnScope N_Fault_init P_Fault_init (defScope s_Fault_init) := ⟨rfl, rfl, rfl, by decide +kernel, rfl, by decide +kernel, by decide +kernel⟩
abbrev s_sign_of : Stmt := top 33
abbrev N_sign_of : List Str := ["byte", "sign"]
abbrev P_sign_of : List Str := ["byte"]
theorem sc_sign_of : FnScope N_sign_of P_sign_of (defScope s_sign_of) := ⟨rfl, rfl, rfl, by decide +kernel, rfl, by decide +kernel, by decide +kernel⟩
abbrev s_run_end : Stmt := top 34
abbrev N_run_end : List Str := ["signs", "at", "some"]
abbrev P_run_end : List Str := ["signs", "at", "some"]
theorem sc_run_end : FnScope N_run_end P_run_end (defScope s_run_end) := ⟨rfl, rfl, rfl, by decide +kernel, rfl, by decide +kernel, by decide +kernel⟩
abbrev s_remark_end : Stmt := top 35
abbrev N_remark_end : List Str := ["text", "at"]
abbrev P_remark_end : List Str := ["text", "at"]
theorem sc_remark_end : FnScope N_remark_end P_remark_end (defScope s_remark_end) := ⟨rfl, rfl, rfl, by decide +kernel, rfl, by decide +kernel, by decide +kernel⟩
abbrev s_worth_of : Stmt := top 36
abbrev N_worth_of : List Str := ["figures", "found", "figure"]
abbrev P_worth_of : List Str := ["figures"]
theorem sc_worth_of : FnScope N_worth_of P_worth_of (defScope s_worth_of) := ⟨rfl, rfl, rfl, by decide +kernel, rfl, by decide +kernel, by decide +kernel⟩
abbrev s_number_at : Stmt := top 37
abbrev N_number_at : List Str := ["signs", "at", "end", "number"]
abbrev P_number_at : List Str := ["signs", "at"]
theorem sc_number_at : FnScope N_number_at P_number_at (defScope s_number_at) := ⟨rfl, rfl, rfl, by decide +kernel, rfl, by decide +kernel, by decide +kernel⟩
abbrev s_token_at : Stmt := top 38
abbrev N_token_at : List Str := ["signs", "at", "end", "word"]
abbrev P_token_at : List Str := ["signs", "at"]
theorem sc_token_at : FnScope N_token_at P_token_at (defScope s_token_at) := ⟨rfl, rfl, rfl, by decide +kernel, rfl, by decide +kernel, by decide +kernel⟩
abbrev s_tokens_of : Stmt := top 39
abbrev N_tokens_of : List Str := ["text", "signs", "found", "at", "token", "byte"]
abbrev P_tokens_of : List Str := ["text"]
theorem sc_tokens_of : FnScope N_tokens_of P_tokens_of (defScope s_tokens_of) := ⟨rfl, rfl, rfl, by decide +kernel, rfl, by decide +kernel, by decide +kernel⟩
abbrev s_Table_init : Stmt := inClass (top 55) 0
abbrev N_Table_init : List Str := ["self"]
abbrev P_Table_init : List Str := ["self"]
theorem sc_Table_init : FnScope N_Table_init P_Table_init (defScope s_Table_init) := ⟨rfl, rfl, rfl, by decide +kernel, rfl, by decide +kernel, by decide +kernel⟩
abbrev s_Reader_init : Stmt := inClass (top 56) 0
abbrev N_Reader_init : List Str := ["self", "tokens"]
abbrev P_Reader_init : List Str := ["self", "tokens"]
theorem sc_Reader_init : FnScope N_Reader_init P_Reader_init (defScope s_Reader_init) := ⟨rfl, rfl, rfl, by decide +kernel, rfl, by decide +kernel, by decide +kernel⟩
abbrev s_Reader_comes : Stmt := inClass (top 56) 1
abbrev N_Reader_comes : List Str := ["self", "sort", "what"]
abbrev P_Reader_comes : List Str := ["self", "sort", "what"]
theorem sc_Reader_comes : FnScope N_Reader_comes P_Reader_comes (defScope s_Reader_comes) := ⟨rfl, rfl, rfl, by decide +kernel, rfl, by decide +kernel, by decide +kernel⟩
abbrev s_Reader_want : Stmt := inClass (top 56) 2
abbrev N_Reader_want : List Str := ["self", "truth", "code"]
abbrev P_Reader_want : List Str := ["self", "truth", "code"]
theorem sc_Reader_want : FnScope N_Reader_want P_Reader_want (defScope s_Reader_want) := ⟨rfl, rfl, rfl, by decide +kernel, rfl, by decide +kernel, by decide +kernel⟩
abbrev s_Reader_take : Stmt := inClass (top 56) 3
abbrev N_Reader_take : List Str := ["self"]
abbrev P_Reader_take : List Str := ["self"]
theorem sc_Reader_take : FnScope N_Reader_take P_Reader_take (defScope s_Reader_take) := ⟨rfl, rfl, rfl, by decide +kernel, rfl, by decide +kernel, by decide +kernel⟩
abbrev s_Reader_read : Stmt := inClass (top 56) 4
abbrev N_Reader_read : List Str := ["self", "sort", "what"]
abbrev P_Reader_read : List Str := ["self", "sort", "what"]
theorem sc_Reader_read : FnScope N_Reader_read P_Reader_read (defScope s_Reader_read) := ⟨rfl, rfl, rfl, by decide +kernel, rfl, by decide +kernel, by decide +kernel⟩
abbrev s_Reader_next_name : Stmt := inClass (top 56) 5
abbrev N_Reader_next_name : List Str := ["self"]
abbrev P_Reader_next_name : List Str := ["self"]
theorem sc_Reader_next_name : FnScope N_Reader_next_name P_Reader_next_name (defScope s_Reader_next_name) := ⟨rfl, rfl, rfl, by decide +kernel, rfl, by decide +kernel, by decide +kernel⟩
abbrev s_Reader_read_number : Stmt := inClass (top 56) 6
abbrev N_Reader_read_number : List Str := ["self", "least", "most"]
abbrev P_Reader_read_number : List Str := ["self", "least", "most"]
theorem sc_Reader_read_number : FnScope N_Reader_read_number P_Reader_read_number (defScope s_Reader_read_number) := ⟨rfl, rfl, rfl, by decide +kernel, rfl, by decide +kernel, by decide +kernel⟩
abbrev s_Reader_begin : Stmt := inClass (top 56) 7
abbrev N_Reader_begin : List Str := ["self", "some", "most"]
abbrev P_Reader_begin : List Str := ["self", "some", "most"]
theorem sc_Reader_begin : FnScope N_Reader_begin P_Reader_begin (defScope s_Reader_begin) := ⟨rfl, rfl, rfl, by decide +kernel, rfl, by decide +kernel, by decide +kernel⟩
abbrev s_Reader_column : Stmt := inClass (top 56) 8
abbrev N_Reader_column : List Str := ["self", "name"]
abbrev P_Reader_column : List Str := ["self"]
theorem sc_Reader_column : FnScope N_Reader_column P_Reader_column (defScope s_Reader_column) := ⟨rfl, rfl, rfl, by decide +kernel, rfl, by decide +kernel, by decide +kernel⟩
abbrev s_Reader_all_columns : Stmt := inClass (top 56) 9
abbrev N_Reader_all_columns : List Str := ["self"]
abbrev P_Reader_all_columns : List Str := ["self"]
theorem sc_Reader_all_columns : FnScope N_Reader_all_columns P_Reader_all_columns (defScope s_Reader_all_columns) := ⟨rfl, rfl, rfl, by decide +kernel, rfl, by decide +kernel, by decide +kernel⟩
abbrev s_Reader_summed : Stmt := inClass (top 56) 10
abbrev N_Reader_summed : List Str := ["self"]
abbrev P_Reader_summed : List Str := ["self"]
theorem sc_Reader_summed : FnScope N_Reader_summed P_Reader_summed (defScope s_Reader_summed) := ⟨rfl, rfl, rfl, by decide +kernel, rfl, by decide +kernel, by decide +kernel⟩
abbrev s_Reader_row : Stmt := inClass (top 56) 11
abbrev N_Reader_row : List Str := ["self", "values", "summed"]
abbrev P_Reader_row : List Str := ["self"]
theorem sc_Reader_row : FnScope N_Reader_row P_Reader_row (defScope s_Reader_row) := ⟨rfl, rfl, rfl, by decide +kernel, rfl, by decide +kernel, by decide +kernel⟩
abbrev s_Reader_asked_column : Stmt := inClass (top 56) 12
abbrev N_Reader_asked_column : List Str := ["self", "some", "name", "place"]
abbrev P_Reader_asked_column : List Str := ["self", "some"]
theorem sc_Reader_asked_column : FnScope N_Reader_asked_column P_Reader_asked_column (defScope s_Reader_asked_column) := ⟨rfl, rfl, rfl, by decide +kernel, rfl, by decide +kernel, by decide +kernel⟩
abbrev s_Reader_asked_columns : Stmt := inClass (top 56) 13
abbrev N_Reader_asked_columns : List Str := ["self", "found"]
abbrev P_Reader_asked_columns : List Str := ["self"]
theorem sc_Reader_asked_columns : FnScope N_Reader_asked_columns P_Reader_asked_columns (defScope s_Reader_asked_columns) := ⟨rfl, rfl, rfl, by decide +kernel, rfl, by decide +kernel, by decide +kernel⟩
abbrev s_Reader_question : Stmt := inClass (top 56) 14
abbrev N_Reader_question : List Str := ["self", "columns", "times"]
abbrev P_Reader_question : List Str := ["self"]
theorem sc_Reader_question : FnScope N_Reader_question P_Reader_question (defScope s_Reader_question) := ⟨rfl, rfl, rfl, by decide +kernel, rfl, by decide +kernel, by decide +kernel⟩
abbrev s_Reader_whole : Stmt := inClass (top 56) 15
abbrev N_Reader_whole : List Str := ["self"]
abbrev P_Reader_whole : List Str := ["self"]
theorem sc_Reader_whole : FnScope N_Reader_whole P_Reader_whole (defScope s_Reader_whole) := ⟨rfl, rfl, rfl, by decide +kernel, rfl, by decide +kernel, by decide +kernel⟩
abbrev s_read_table : Stmt := top 57
abbrev N_read_table : List Str := ["text"]
abbrev P_read_table : List Str := ["text"]
theorem sc_read_table : FnScope N_read_table P_read_table (defScope s_read_table) := ⟨rfl, rfl, rfl, by decide +kernel, rfl, by decide +kernel, by decide +kernel⟩
abbrev s_Refused_init : Stmt := inClass (top 70) 0
abbrev N_Refused_init : List Str := ["self", "number"]
abbrev P_Refused_init : List Str := ["self", "number"]
theorem sc_Refused_init : FnScope N_Refused_init P_Refused_init (defScope s_Refused_init) := ⟨rfl, rfl, rfl, by decide +kernel, rfl, by decide +kernel, by decide +kernel⟩
abbrev s_want : Stmt := top 71
abbrev N_want : List Str := ["truth", "number"]
abbrev P_want : List Str := ["truth", "number"]
theorem sc_want : FnScope N_want P_want (defScope s_want) := ⟨rfl, rfl, rfl, by decide +kernel, rfl, by decide +kernel, by decide +kernel⟩
abbrev s_Desk_init : Stmt := inClass (top 72) 0
abbrev N_Desk_init : List Str := ["self"]
abbrev P_Desk_init : List Str := ["self"]
theorem sc_Desk_init : FnScope N_Desk_init P_Desk_init (defScope s_Desk_init) := ⟨rfl, rfl, rfl, by decide +kernel, rfl, by decide +kernel, by decide +kernel⟩
abbrev s_Desk_load : Stmt := inClass (top 72) 1
abbrev N_Desk_load : List Str := ["self", "text", "e", "table"]
abbrev P_Desk_load : List Str := ["self", "text"]
theorem sc_Desk_load : FnScope N_Desk_load P_Desk_load (defScope s_Desk_load) := ⟨rfl, rfl, rfl, by decide +kernel, rfl, by decide +kernel, by decide +kernel⟩
abbrev s_Desk_want_groupings : Stmt := inClass (top 72) 2
abbrev N_Desk_want_groupings : List Str := ["self", "numbers", "number"]
abbrev P_Desk_want_groupings : List Str := ["self", "numbers"]
theorem sc_Desk_want_groupings : FnScope N_Desk_want_groupings P_Desk_want_groupings (defScope s_Desk_want_groupings) := ⟨rfl, rfl, rfl, by decide +kernel, rfl, by decide +kernel, by decide +kernel⟩
abbrev s_Desk_counts : Stmt := inClass (top 72) 3
abbrev N_Desk_counts : List Str := ["self"]
abbrev P_Desk_counts : List Str := ["self"]
theorem sc_Desk_counts : FnScope N_Desk_counts P_Desk_counts (defScope s_Desk_counts) := ⟨rfl, rfl, rfl, by decide +kernel, rfl, by decide +kernel, by decide +kernel⟩
abbrev s_Desk_keep : Stmt := inClass (top 72) 4
abbrev N_Desk_keep : List Str := ["self", "groupings", "one"]
abbrev P_Desk_keep : List Str := ["self", "groupings"]
theorem sc_Desk_keep : FnScope N_Desk_keep P_Desk_keep (defScope s_Desk_keep) := ⟨rfl, rfl, rfl, by decide +kernel, rfl, by decide +kernel, by decide +kernel⟩
abbrev s_Desk_put : Stmt := inClass (top 72) 5
abbrev N_Desk_put : List Str := ["self", "m", "values", "value"]
abbrev P_Desk_put : List Str := ["self", "m", "values"]
theorem sc_Desk_put : FnScope N_Desk_put P_Desk_put (defScope s_Desk_put) := ⟨rfl, rfl, rfl, by decide +kernel, rfl, by decide +kernel, by decide +kernel⟩
abbrev s_Desk_take : Stmt := inClass (top 72) 6
abbrev N_Desk_take : List Str := ["self", "i"]
abbrev P_Desk_take : List Str := ["self", "i"]
theorem sc_Desk_take : FnScope N_Desk_take P_Desk_take (defScope s_Desk_take) := ⟨rfl, rfl, rfl, by decide +kernel, rfl, by decide +kernel, by decide +kernel⟩
abbrev s_Desk_refresh : Stmt := inClass (top 72) 7
abbrev N_Desk_refresh : List Str := ["self", "g", "changes"]
abbrev P_Desk_refresh : List Str := ["self", "g"]
theorem sc_Desk_refresh : FnScope N_Desk_refresh P_Desk_refresh (defScope s_Desk_refresh) := ⟨rfl, rfl, rfl, by decide +kernel, rfl, by decide +kernel, by decide +kernel⟩
abbrev s_Desk_ages : Stmt := inClass (top 72) 8
abbrev N_Desk_ages : List Str := ["self", "found", "one"]
abbrev P_Desk_ages : List Str := ["self"]
theorem sc_Desk_ages : FnScope N_Desk_ages P_Desk_ages (defScope s_Desk_ages) := ⟨rfl, rfl, rfl, by decide +kernel, rfl, by decide +kernel, by decide +kernel⟩
abbrev s_Desk_read : Stmt := inClass (top 72) 9
abbrev N_Desk_read : List Str := ["self", "g", "a", "source", "found"]
abbrev P_Desk_read : List Str := ["self", "g", "a"]
theorem sc_Desk_read : FnScope N_Desk_read P_Desk_read (defScope s_Desk_read) := ⟨rfl, rfl, rfl, by decide +kernel, rfl, by decide +kernel, by decide +kernel⟩
abbrev s_Desk_together : Stmt := inClass (top 72) 10
abbrev N_Desk_together : List Str := ["self", "costs", "rows", "one", "source", "cost"]
abbrev P_Desk_together : List Str := ["self"]
theorem sc_Desk_together : FnScope N_Desk_together P_Desk_together (defScope s_Desk_together) := ⟨rfl, rfl, rfl, by decide +kernel, rfl, by decide +kernel, by decide +kernel⟩
abbrev s_Desk_was : Stmt := inClass (top 72) 11
abbrev N_Desk_was : List Str := ["self", "n", "g"]
abbrev P_Desk_was : List Str := ["self", "n", "g"]
theorem sc_Desk_was : FnScope N_Desk_was P_Desk_was (defScope s_Desk_was) := ⟨rfl, rfl, rfl, by decide +kernel, rfl, by decide +kernel, by decide +kernel⟩
abbrev s_Desk_asked : Stmt := inClass (top 72) 12
abbrev N_Desk_asked : List Str := ["self", "call", "n", "rows"]
abbrev P_Desk_asked : List Str := ["self", "call", "n", "rows"]
theorem sc_Desk_asked : FnScope N_Desk_asked P_Desk_asked (defScope s_Desk_asked) := ⟨rfl, rfl, rfl, by decide +kernel, rfl, by decide +kernel, by decide +kernel⟩
abbrev s_Desk_answer : Stmt := inClass (top 72) 13
abbrev N_Desk_answer : List Str := ["self", "call", "n", "rows", "e"]
abbrev P_Desk_answer : List Str := ["self", "call", "n", "rows"]
theorem sc_Desk_answer : FnScope N_Desk_answer P_Desk_answer (defScope s_Desk_answer) := ⟨rfl, rfl, rfl, by decide +kernel, rfl, by decide +kernel, by decide +kernel⟩
abbrev s_rows_at : Stmt := top 73
abbrev N_rows_at : List Str := ["calls", "at", "many", "found", "turn"]
abbrev P_rows_at : List Str := ["calls", "at", "many"]
theorem sc_rows_at : FnScope N_rows_at P_rows_at (defScope s_rows_at) := ⟨rfl, rfl, rfl, by decide +kernel, rfl, by decide +kernel, by decide +kernel⟩
abbrev s_answers : Stmt := top 74
abbrev N_answers : List Str := ["calls", "desk", "found", "at", "call", "end", "n", "made", "many", "lists", "rows"]
abbrev P_answers : List Str := ["calls"]
theorem sc_answers : FnScope N_answers P_answers (defScope s_answers) := ⟨rfl, rfl, rfl, by decide +kernel, rfl, by decide +kernel, by decide +kernel⟩
/-- where the defs, classes, tuples of the module lie -/
structure Ads where
  f_columns_of : Addr
  f_has_all : Addr
  f_group_of : Addr
  f_with_more : Addr
  f_answer_of : Addr
  f_worked_out : Addr
  f_lines_told : Addr
  f_Kept_init : Addr
  f_Store_init : Addr
  f_Store_rows_now : Addr
  f_Store_is_grouping : Addr
  f_Store_put : Addr
  f_Store_take : Addr
  f_Store_keep : Addr
  f_Store_age : Addr
  f_Store_since : Addr
  f_Store_touched : Addr
  f_Store_refresh : Addr
  f_Store_lines : Addr
  f_Store_read_from : Addr
  f_Store_answer_from : Addr
  f_Store_cheapest : Addr
  f_Fault_init : Addr
  f_sign_of : Addr
  f_run_end : Addr
  f_remark_end : Addr
  f_worth_of : Addr
  f_number_at : Addr
  f_token_at : Addr
  f_tokens_of : Addr
  f_Table_init : Addr
  f_Reader_init : Addr
  f_Reader_comes : Addr
  f_Reader_want : Addr
  f_Reader_take : Addr
  f_Reader_read : Addr
  f_Reader_next_name : Addr
  f_Reader_read_number : Addr
  f_Reader_begin : Addr
  f_Reader_column : Addr
  f_Reader_all_columns : Addr
  f_Reader_summed : Addr
  f_Reader_row : Addr
  f_Reader_asked_column : Addr
  f_Reader_asked_columns : Addr
  f_Reader_question : Addr
  f_Reader_whole : Addr
  f_read_table : Addr
  f_Refused_init : Addr
  f_want : Addr
  f_Desk_init : Addr
  f_Desk_load : Addr
  f_Desk_want_groupings : Addr
  f_Desk_counts : Addr
  f_Desk_keep : Addr
  f_Desk_put : Addr
  f_Desk_take : Addr
  f_Desk_refresh : Addr
  f_Desk_ages : Addr
  f_Desk_read : Addr
  f_Desk_together : Addr
  f_Desk_was : Addr
  f_Desk_asked : Addr
  f_Desk_answer : Addr
  f_rows_at : Addr
  f_answers : Addr
  c_Kept : Addr
  c_Store : Addr
  c_Fault : Addr
  c_Table : Addr
  c_Reader : Addr
  c_Refused : Addr
  c_Desk : Addr
  a_WORDS : Addr
  a_BLANKS : Addr
  a_FORMS : Addr
  a_F0 : Addr
  a_F1 : Addr
  a_F2 : Addr
  a_F3 : Addr
  a_F4 : Addr
  a_F5 : Addr
  a_F6 : Addr
  a_F7 : Addr
  a_F8 : Addr
/-- what the top has written -/
structure Txt (K : PySem.W.Frag) (mg : Str → Option Value) (A : Ads) : Prop where
  c_PUT : ∃ t, mg "PUT" = some (.int (1) t)
  c_TAKEN_keeping : ∃ t, mg "TAKEN_keeping" = some (.int (-1) t)
  c_BY_CHANGES : ∃ t, mg "BY_CHANGES" = some (.int (-1) t)
  c_BY_TABLE : ∃ t, mg "BY_TABLE" = some (.int (-1) t)
  c_NAME : ∃ t, mg "NAME" = some (.str "name" t)
  c_WORD : ∃ t, mg "WORD" = some (.str "word" t)
  c_NUMBER : ∃ t, mg "NUMBER" = some (.str "number" t)
  c_SIGN : ∃ t, mg "SIGN" = some (.str "sign" t)
  c_END : ∃ t, mg "END" = some (.str "end" t)
  g_WORDS : mg "WORDS" = some (.ref A.a_WORDS)
  w_WORDS : ∀ H, SqT K H A.a_WORDS [V.str "columns", V.str "row", V.str "ask", V.str "times"]
  c_LETTERS : ∃ t, mg "LETTERS" = some (.str "abcdefghijklmnopqrstuvwxyzABCDEFGHIJKLMNOPQRSTUVWXYZ" t)
  c_DIGITS : ∃ t, mg "DIGITS" = some (.str "0123456789" t)
  c_SIGNS : ∃ t, mg "SIGNS" = some (.str ",:;-" t)
  g_BLANKS : mg "BLANKS" = some (.ref A.a_BLANKS)
  w_BLANKS : ∀ H, SqT K H A.a_BLANKS [V.int (32), V.int (9), V.int (10)]
  c_REMARK : ∃ t, mg "REMARK" = some (.int (35) t)
  c_LINE_END : ∃ t, mg "LINE_END" = some (.int (10) t)
  c_LONGEST_NAME : ∃ t, mg "LONGEST_NAME" = some (.int (16) t)
  c_MOST_NUMBER : ∃ t, mg "MOST_NUMBER" = some (.int (1000000000) t)
  c_UNKNOWN : ∃ t, mg "UNKNOWN" = some (.str "?" t)
  c_NO_TOKEN : ∃ t, mg "NO_TOKEN" = some (.int (2) t)
  c_LONG_TEXT : ∃ t, mg "LONG_TEXT" = some (.int (1) t)
  c_MISPLACED : ∃ t, mg "MISPLACED" = some (.int (3) t)
  c_TOO_MANY_reading : ∃ t, mg "TOO_MANY_reading" = some (.int (4) t)
  c_TAKEN_reading : ∃ t, mg "TAKEN_reading" = some (.int (5) t)
  c_TWICE : ∃ t, mg "TWICE" = some (.int (6) t)
  c_OUT_OF_BOUNDS : ∃ t, mg "OUT_OF_BOUNDS" = some (.int (7) t)
  c_NO_COLUMN : ∃ t, mg "NO_COLUMN" = some (.int (8) t)
  c_MOST_BYTES : ∃ t, mg "MOST_BYTES" = some (.int (4096) t)
  c_MOST_COLUMNS : ∃ t, mg "MOST_COLUMNS" = some (.int (4) t)
  c_MOST_ROWS : ∃ t, mg "MOST_ROWS" = some (.int (16) t)
  c_MOST_QUESTIONS : ∃ t, mg "MOST_QUESTIONS" = some (.int (8) t)
  c_MOST_VALUE : ∃ t, mg "MOST_VALUE" = some (.int (9) t)
  c_MOST_SUMMED : ∃ t, mg "MOST_SUMMED" = some (.int (1000) t)
  c_MOST_TIMES : ∃ t, mg "MOST_TIMES" = some (.int (99) t)
  c_NO_TABLE : ∃ t, mg "NO_TABLE" = some (.int (-1) t)
  c_NO_GROUPING : ∃ t, mg "NO_GROUPING" = some (.int (-2) t)
  c_NO_ROW : ∃ t, mg "NO_ROW" = some (.int (-3) t)
  c_NO_VALUES : ∃ t, mg "NO_VALUES" = some (.int (-4) t)
  c_NOT_KEPT : ∃ t, mg "NOT_KEPT" = some (.int (-5) t)
  c_FULL : ∃ t, mg "FULL" = some (.int (-6) t)
  c_TOO_MANY_tables : ∃ t, mg "TOO_MANY_tables" = some (.int (-7) t)
  c_BELOW : ∃ t, mg "BELOW" = some (.int (-8) t)
  c_NOT_SO_MANY : ∃ t, mg "NOT_SO_MANY" = some (.int (-9) t)
  c_MOST_CHANGES : ∃ t, mg "MOST_CHANGES" = some (.int (40) t)
  g_FORMS : mg "FORMS" = some (.ref A.a_FORMS)
  w_FORMS : ∀ H, SqT K H A.a_FORMS [V.ref A.a_F0, V.ref A.a_F1, V.ref A.a_F2, V.ref A.a_F3, V.ref A.a_F4, V.ref A.a_F5, V.ref A.a_F6, V.ref A.a_F7, V.ref A.a_F8]
  w_F0 : ∀ H, SqT K H A.a_F0 [V.int (0), V.int (1)]
  w_F1 : ∀ H, SqT K H A.a_F1 [V.int (0), V.int (1)]
  w_F2 : ∀ H, SqT K H A.a_F2 [V.int (1), V.int (1)]
  w_F3 : ∀ H, SqT K H A.a_F3 [V.int (1), V.int (0)]
  w_F4 : ∀ H, SqT K H A.a_F4 [V.int (1), V.int (0)]
  w_F5 : ∀ H, SqT K H A.a_F5 [V.int (0), V.int (0)]
  w_F6 : ∀ H, SqT K H A.a_F6 [V.int (2), V.int (0)]
  w_F7 : ∀ H, SqT K H A.a_F7 [V.int (0), V.int (0)]
  w_F8 : ∀ H, SqT K H A.a_F8 [V.int (2), V.int (0)]
  n_ValueError : mg "ValueError" = none
  n_all : mg "all" = none
  n_dict : mg "dict" = none
  n_enumerate : mg "enumerate" = none
  n_len : mg "len" = none
  n_list : mg "list" = none
  n_min : mg "min" = none
  n_ord : mg "ord" = none
  n_range : mg "range" = none
  n_set : mg "set" = none
  n_sorted : mg "sorted" = none
  n_sum : mg "sum" = none
  n_tuple : mg "tuple" = none
  vinit : PySem.W.findCls K (.type "ValueError") (.type "type") "__init__" = some (.val (.builtin "ValueError.__init__"))
  F_columns_of : ∃ fd, Fun K "columns_of" "columns_of" s_columns_of A.f_columns_of fd ∧ Binds K fd P_columns_of []
  g_columns_of : mg "columns_of" = some (.ref A.f_columns_of)
  k_columns_of : PySem.W.keepIn K (.ref A.f_columns_of) = true
  F_has_all : ∃ fd, Fun K "has_all" "has_all" s_has_all A.f_has_all fd ∧ Binds K fd P_has_all []
  g_has_all : mg "has_all" = some (.ref A.f_has_all)
  k_has_all : PySem.W.keepIn K (.ref A.f_has_all) = true
  F_group_of : ∃ fd, Fun K "group_of" "group_of" s_group_of A.f_group_of fd ∧ Binds K fd P_group_of []
  g_group_of : mg "group_of" = some (.ref A.f_group_of)
  k_group_of : PySem.W.keepIn K (.ref A.f_group_of) = true
  F_with_more : ∃ fd, Fun K "with_more" "with_more" s_with_more A.f_with_more fd ∧ Binds K fd P_with_more []
  g_with_more : mg "with_more" = some (.ref A.f_with_more)
  k_with_more : PySem.W.keepIn K (.ref A.f_with_more) = true
  F_answer_of : ∃ fd, Fun K "answer_of" "answer_of" s_answer_of A.f_answer_of fd ∧ Binds K fd P_answer_of []
  g_answer_of : mg "answer_of" = some (.ref A.f_answer_of)
  k_answer_of : PySem.W.keepIn K (.ref A.f_answer_of) = true
  F_worked_out : ∃ fd, Fun K "worked_out" "worked_out" s_worked_out A.f_worked_out fd ∧ Binds K fd P_worked_out []
  g_worked_out : mg "worked_out" = some (.ref A.f_worked_out)
  k_worked_out : PySem.W.keepIn K (.ref A.f_worked_out) = true
  F_lines_told : ∃ fd, Fun K "lines_told" "lines_told" s_lines_told A.f_lines_told fd ∧ Binds K fd P_lines_told []
  g_lines_told : mg "lines_told" = some (.ref A.f_lines_told)
  k_lines_told : PySem.W.keepIn K (.ref A.f_lines_told) = true
  F_Kept_init : ∃ fd, Fun K "__init__" "Kept.__init__" s_Kept_init A.f_Kept_init fd ∧ Binds K fd P_Kept_init []
  F_Store_init : ∃ fd, Fun K "__init__" "Store.__init__" s_Store_init A.f_Store_init fd ∧ Binds K fd P_Store_init []
  F_Store_rows_now : ∃ fd, Fun K "rows_now" "Store.rows_now" s_Store_rows_now A.f_Store_rows_now fd ∧ Binds K fd P_Store_rows_now []
  m_Store_rows_now : Meth K A.c_Store "rows_now" A.f_Store_rows_now
  F_Store_is_grouping : ∃ fd, Fun K "is_grouping" "Store.is_grouping" s_Store_is_grouping A.f_Store_is_grouping fd ∧ Binds K fd P_Store_is_grouping []
  m_Store_is_grouping : Meth K A.c_Store "is_grouping" A.f_Store_is_grouping
  F_Store_put : ∃ fd, Fun K "put" "Store.put" s_Store_put A.f_Store_put fd ∧ Binds K fd P_Store_put []
  m_Store_put : Meth K A.c_Store "put" A.f_Store_put
  F_Store_take : ∃ fd, Fun K "take" "Store.take" s_Store_take A.f_Store_take fd ∧ Binds K fd P_Store_take []
  m_Store_take : Meth K A.c_Store "take" A.f_Store_take
  F_Store_keep : ∃ fd, Fun K "keep" "Store.keep" s_Store_keep A.f_Store_keep fd ∧ Binds K fd P_Store_keep []
  m_Store_keep : Meth K A.c_Store "keep" A.f_Store_keep
  F_Store_age : ∃ fd, Fun K "age" "Store.age" s_Store_age A.f_Store_age fd ∧ Binds K fd P_Store_age []
  m_Store_age : Meth K A.c_Store "age" A.f_Store_age
  F_Store_since : ∃ fd, Fun K "since" "Store.since" s_Store_since A.f_Store_since fd ∧ Binds K fd P_Store_since []
  m_Store_since : Meth K A.c_Store "since" A.f_Store_since
  F_Store_touched : ∃ fd, Fun K "touched" "Store.touched" s_Store_touched A.f_Store_touched fd ∧ Binds K fd P_Store_touched []
  m_Store_touched : Meth K A.c_Store "touched" A.f_Store_touched
  F_Store_refresh : ∃ fd, Fun K "refresh" "Store.refresh" s_Store_refresh A.f_Store_refresh fd ∧ Binds K fd P_Store_refresh []
  m_Store_refresh : Meth K A.c_Store "refresh" A.f_Store_refresh
  F_Store_lines : ∃ fd, Fun K "lines" "Store.lines" s_Store_lines A.f_Store_lines fd ∧ Binds K fd P_Store_lines []
  m_Store_lines : Meth K A.c_Store "lines" A.f_Store_lines
  F_Store_read_from : ∃ fd, Fun K "read_from" "Store.read_from" s_Store_read_from A.f_Store_read_from fd ∧ Binds K fd P_Store_read_from []
  m_Store_read_from : Meth K A.c_Store "read_from" A.f_Store_read_from
  F_Store_answer_from : ∃ fd, Fun K "answer_from" "Store.answer_from" s_Store_answer_from A.f_Store_answer_from fd ∧ Binds K fd P_Store_answer_from []
  m_Store_answer_from : Meth K A.c_Store "answer_from" A.f_Store_answer_from
  F_Store_cheapest : ∃ fd, Fun K "cheapest" "Store.cheapest" s_Store_cheapest A.f_Store_cheapest fd ∧ Binds K fd P_Store_cheapest []
  m_Store_cheapest : Meth K A.c_Store "cheapest" A.f_Store_cheapest
  F_Fault_init : ∃ fd, Fun K "__init__" "Fault.__init__" s_Fault_init A.f_Fault_init fd ∧ Binds K fd P_Fault_init []
  F_sign_of : ∃ fd, Fun K "sign_of" "sign_of" s_sign_of A.f_sign_of fd ∧ Binds K fd P_sign_of []
  g_sign_of : mg "sign_of" = some (.ref A.f_sign_of)
  k_sign_of : PySem.W.keepIn K (.ref A.f_sign_of) = true
  F_run_end : ∃ fd, Fun K "run_end" "run_end" s_run_end A.f_run_end fd ∧ Binds K fd P_run_end []
  g_run_end : mg "run_end" = some (.ref A.f_run_end)
  k_run_end : PySem.W.keepIn K (.ref A.f_run_end) = true
  F_remark_end : ∃ fd, Fun K "remark_end" "remark_end" s_remark_end A.f_remark_end fd ∧ Binds K fd P_remark_end []
  g_remark_end : mg "remark_end" = some (.ref A.f_remark_end)
  k_remark_end : PySem.W.keepIn K (.ref A.f_remark_end) = true
  F_worth_of : ∃ fd, Fun K "worth_of" "worth_of" s_worth_of A.f_worth_of fd ∧ Binds K fd P_worth_of []
  g_worth_of : mg "worth_of" = some (.ref A.f_worth_of)
  k_worth_of : PySem.W.keepIn K (.ref A.f_worth_of) = true
  F_number_at : ∃ fd, Fun K "number_at" "number_at" s_number_at A.f_number_at fd ∧ Binds K fd P_number_at []
  g_number_at : mg "number_at" = some (.ref A.f_number_at)
  k_number_at : PySem.W.keepIn K (.ref A.f_number_at) = true
  F_token_at : ∃ fd, Fun K "token_at" "token_at" s_token_at A.f_token_at fd ∧ Binds K fd P_token_at []
  g_token_at : mg "token_at" = some (.ref A.f_token_at)
  k_token_at : PySem.W.keepIn K (.ref A.f_token_at) = true
  F_tokens_of : ∃ fd, Fun K "tokens_of" "tokens_of" s_tokens_of A.f_tokens_of fd ∧ Binds K fd P_tokens_of []
  g_tokens_of : mg "tokens_of" = some (.ref A.f_tokens_of)
  k_tokens_of : PySem.W.keepIn K (.ref A.f_tokens_of) = true
  F_Table_init : ∃ fd, Fun K "__init__" "Table.__init__" s_Table_init A.f_Table_init fd ∧ Binds K fd P_Table_init []
  F_Reader_init : ∃ fd, Fun K "__init__" "Reader.__init__" s_Reader_init A.f_Reader_init fd ∧ Binds K fd P_Reader_init []
  F_Reader_comes : ∃ fd, Fun K "comes" "Reader.comes" s_Reader_comes A.f_Reader_comes fd ∧ Binds K fd P_Reader_comes []
  m_Reader_comes : Meth K A.c_Reader "comes" A.f_Reader_comes
  F_Reader_want : ∃ fd, Fun K "want" "Reader.want" s_Reader_want A.f_Reader_want fd ∧ Binds K fd P_Reader_want []
  m_Reader_want : Meth K A.c_Reader "want" A.f_Reader_want
  F_Reader_take : ∃ fd, Fun K "take" "Reader.take" s_Reader_take A.f_Reader_take fd ∧ Binds K fd P_Reader_take []
  m_Reader_take : Meth K A.c_Reader "take" A.f_Reader_take
  F_Reader_read : ∃ fd, Fun K "read" "Reader.read" s_Reader_read A.f_Reader_read fd ∧ Binds K fd P_Reader_read []
  m_Reader_read : Meth K A.c_Reader "read" A.f_Reader_read
  F_Reader_next_name : ∃ fd, Fun K "next_name" "Reader.next_name" s_Reader_next_name A.f_Reader_next_name fd ∧ Binds K fd P_Reader_next_name []
  m_Reader_next_name : Meth K A.c_Reader "next_name" A.f_Reader_next_name
  F_Reader_read_number : ∃ fd, Fun K "read_number" "Reader.read_number" s_Reader_read_number A.f_Reader_read_number fd ∧ Binds K fd P_Reader_read_number []
  m_Reader_read_number : Meth K A.c_Reader "read_number" A.f_Reader_read_number
  F_Reader_begin : ∃ fd, Fun K "begin" "Reader.begin" s_Reader_begin A.f_Reader_begin fd ∧ Binds K fd P_Reader_begin []
  m_Reader_begin : Meth K A.c_Reader "begin" A.f_Reader_begin
  F_Reader_column : ∃ fd, Fun K "column" "Reader.column" s_Reader_column A.f_Reader_column fd ∧ Binds K fd P_Reader_column []
  m_Reader_column : Meth K A.c_Reader "column" A.f_Reader_column
  F_Reader_all_columns : ∃ fd, Fun K "all_columns" "Reader.all_columns" s_Reader_all_columns A.f_Reader_all_columns fd ∧ Binds K fd P_Reader_all_columns []
  m_Reader_all_columns : Meth K A.c_Reader "all_columns" A.f_Reader_all_columns
  F_Reader_summed : ∃ fd, Fun K "summed" "Reader.summed" s_Reader_summed A.f_Reader_summed fd ∧ Binds K fd P_Reader_summed []
  m_Reader_summed : Meth K A.c_Reader "summed" A.f_Reader_summed
  F_Reader_row : ∃ fd, Fun K "row" "Reader.row" s_Reader_row A.f_Reader_row fd ∧ Binds K fd P_Reader_row []
  m_Reader_row : Meth K A.c_Reader "row" A.f_Reader_row
  F_Reader_asked_column : ∃ fd, Fun K "asked_column" "Reader.asked_column" s_Reader_asked_column A.f_Reader_asked_column fd ∧ Binds K fd P_Reader_asked_column []
  m_Reader_asked_column : Meth K A.c_Reader "asked_column" A.f_Reader_asked_column
  F_Reader_asked_columns : ∃ fd, Fun K "asked_columns" "Reader.asked_columns" s_Reader_asked_columns A.f_Reader_asked_columns fd ∧ Binds K fd P_Reader_asked_columns []
  m_Reader_asked_columns : Meth K A.c_Reader "asked_columns" A.f_Reader_asked_columns
  F_Reader_question : ∃ fd, Fun K "question" "Reader.question" s_Reader_question A.f_Reader_question fd ∧ Binds K fd P_Reader_question []
  m_Reader_question : Meth K A.c_Reader "question" A.f_Reader_question
  F_Reader_whole : ∃ fd, Fun K "whole" "Reader.whole" s_Reader_whole A.f_Reader_whole fd ∧ Binds K fd P_Reader_whole []
  m_Reader_whole : Meth K A.c_Reader "whole" A.f_Reader_whole
  F_read_table : ∃ fd, Fun K "read_table" "read_table" s_read_table A.f_read_table fd ∧ Binds K fd P_read_table []
  g_read_table : mg "read_table" = some (.ref A.f_read_table)
  k_read_table : PySem.W.keepIn K (.ref A.f_read_table) = true
  F_Refused_init : ∃ fd, Fun K "__init__" "Refused.__init__" s_Refused_init A.f_Refused_init fd ∧ Binds K fd P_Refused_init []
  F_want : ∃ fd, Fun K "want" "want" s_want A.f_want fd ∧ Binds K fd P_want []
  g_want : mg "want" = some (.ref A.f_want)
  k_want : PySem.W.keepIn K (.ref A.f_want) = true
  F_Desk_init : ∃ fd, Fun K "__init__" "Desk.__init__" s_Desk_init A.f_Desk_init fd ∧ Binds K fd P_Desk_init []
  F_Desk_load : ∃ fd, Fun K "load" "Desk.load" s_Desk_load A.f_Desk_load fd ∧ Binds K fd P_Desk_load []
  m_Desk_load : Meth K A.c_Desk "load" A.f_Desk_load
  F_Desk_want_groupings : ∃ fd, Fun K "want_groupings" "Desk.want_groupings" s_Desk_want_groupings A.f_Desk_want_groupings fd ∧ Binds K fd P_Desk_want_groupings []
  m_Desk_want_groupings : Meth K A.c_Desk "want_groupings" A.f_Desk_want_groupings
  F_Desk_counts : ∃ fd, Fun K "counts" "Desk.counts" s_Desk_counts A.f_Desk_counts fd ∧ Binds K fd P_Desk_counts []
  m_Desk_counts : Meth K A.c_Desk "counts" A.f_Desk_counts
  F_Desk_keep : ∃ fd, Fun K "keep" "Desk.keep" s_Desk_keep A.f_Desk_keep fd ∧ Binds K fd P_Desk_keep []
  m_Desk_keep : Meth K A.c_Desk "keep" A.f_Desk_keep
  F_Desk_put : ∃ fd, Fun K "put" "Desk.put" s_Desk_put A.f_Desk_put fd ∧ Binds K fd P_Desk_put []
  m_Desk_put : Meth K A.c_Desk "put" A.f_Desk_put
  F_Desk_take : ∃ fd, Fun K "take" "Desk.take" s_Desk_take A.f_Desk_take fd ∧ Binds K fd P_Desk_take []
  m_Desk_take : Meth K A.c_Desk "take" A.f_Desk_take
  F_Desk_refresh : ∃ fd, Fun K "refresh" "Desk.refresh" s_Desk_refresh A.f_Desk_refresh fd ∧ Binds K fd P_Desk_refresh []
  m_Desk_refresh : Meth K A.c_Desk "refresh" A.f_Desk_refresh
  F_Desk_ages : ∃ fd, Fun K "ages" "Desk.ages" s_Desk_ages A.f_Desk_ages fd ∧ Binds K fd P_Desk_ages []
  m_Desk_ages : Meth K A.c_Desk "ages" A.f_Desk_ages
  F_Desk_read : ∃ fd, Fun K "read" "Desk.read" s_Desk_read A.f_Desk_read fd ∧ Binds K fd P_Desk_read []
  m_Desk_read : Meth K A.c_Desk "read" A.f_Desk_read
  F_Desk_together : ∃ fd, Fun K "together" "Desk.together" s_Desk_together A.f_Desk_together fd ∧ Binds K fd P_Desk_together []
  m_Desk_together : Meth K A.c_Desk "together" A.f_Desk_together
  F_Desk_was : ∃ fd, Fun K "was" "Desk.was" s_Desk_was A.f_Desk_was fd ∧ Binds K fd P_Desk_was []
  m_Desk_was : Meth K A.c_Desk "was" A.f_Desk_was
  F_Desk_asked : ∃ fd, Fun K "asked" "Desk.asked" s_Desk_asked A.f_Desk_asked fd ∧ Binds K fd P_Desk_asked []
  m_Desk_asked : Meth K A.c_Desk "asked" A.f_Desk_asked
  F_Desk_answer : ∃ fd, Fun K "answer" "Desk.answer" s_Desk_answer A.f_Desk_answer fd ∧ Binds K fd P_Desk_answer []
  m_Desk_answer : Meth K A.c_Desk "answer" A.f_Desk_answer
  F_rows_at : ∃ fd, Fun K "rows_at" "rows_at" s_rows_at A.f_rows_at fd ∧ Binds K fd P_rows_at []
  g_rows_at : mg "rows_at" = some (.ref A.f_rows_at)
  k_rows_at : PySem.W.keepIn K (.ref A.f_rows_at) = true
  F_answers : ∃ fd, Fun K "answers" "answers" s_answers A.f_answers fd ∧ Binds K fd P_answers []
  g_answers : mg "answers" = some (.ref A.f_answers)
  k_answers : PySem.W.keepIn K (.ref A.f_answers) = true
  g_Kept : mg "Kept" = some (.ref A.c_Kept)
  cl_Kept : Cls K A.c_Kept
  mk_Kept : Mk K A.c_Kept A.f_Kept_init
  na_Kept_lines_kept : NoAttr K A.c_Kept "lines_kept"
  na_Kept_made : NoAttr K A.c_Kept "made"
  g_Store : mg "Store" = some (.ref A.c_Store)
  cl_Store : Cls K A.c_Store
  mk_Store : Mk K A.c_Store A.f_Store_init
  na_Store_many : NoAttr K A.c_Store "many"
  na_Store_history : NoAttr K A.c_Store "history"
  na_Store_changes : NoAttr K A.c_Store "changes"
  na_Store_kept : NoAttr K A.c_Store "kept"
  g_Fault : mg "Fault" = some (.ref A.c_Fault)
  oex_Fault : OexC K A.c_Fault
  i_Fault : PySem.W.findIn K (.ref A.c_Fault) "__init__" = some (some (.ref A.f_Fault_init))
  t_Fault : PySem.W.typeIn K (.ref A.f_Fault_init) = some (.type "function")
  xf_Fault : XfC K A.c_Fault
  te_Fault : PySem.W.exmOne K (.ref A.c_Fault) (.ref A.c_Fault) = some true
  xn_Fault_code : PySem.W.findIn K (.ref A.c_Fault) "code" = some none
  xn_Fault_place : PySem.W.findIn K (.ref A.c_Fault) "place" = some none
  g_Table : mg "Table" = some (.ref A.c_Table)
  cl_Table : Cls K A.c_Table
  mk_Table : Mk K A.c_Table A.f_Table_init
  na_Table_columns : NoAttr K A.c_Table "columns"
  na_Table_rows : NoAttr K A.c_Table "rows"
  na_Table_questions : NoAttr K A.c_Table "questions"
  g_Reader : mg "Reader" = some (.ref A.c_Reader)
  cl_Reader : Cls K A.c_Reader
  mk_Reader : Mk K A.c_Reader A.f_Reader_init
  na_Reader_tokens : NoAttr K A.c_Reader "tokens"
  na_Reader_at : NoAttr K A.c_Reader "at"
  na_Reader_table : NoAttr K A.c_Reader "table"
  g_Refused : mg "Refused" = some (.ref A.c_Refused)
  oex_Refused : OexC K A.c_Refused
  i_Refused : PySem.W.findIn K (.ref A.c_Refused) "__init__" = some (some (.ref A.f_Refused_init))
  t_Refused : PySem.W.typeIn K (.ref A.f_Refused_init) = some (.type "function")
  xf_Refused : XfC K A.c_Refused
  te_Refused : PySem.W.exmOne K (.ref A.c_Refused) (.ref A.c_Refused) = some true
  xn_Refused_number : PySem.W.findIn K (.ref A.c_Refused) "number" = some none
  g_Desk : mg "Desk" = some (.ref A.c_Desk)
  cl_Desk : Cls K A.c_Desk
  mk_Desk : Mk K A.c_Desk A.f_Desk_init
  na_Desk_store : NoAttr K A.c_Desk "store"
/-- a def at f keeps its promise, up to the level k -/
def Ok (P : Program) (w : World) (K : PySem.W.Frag) (mg : Str → Option Value) (base : Heap) (CX : CXT) (k : Nat) (f : Addr) (ps : List Str) (sp : Sp) : Prop :=
  ∃ fd, Binds K fd ps [] ∧ FnOk P w K mg base CX k f fd ps sp
end KR
end
section
set_option maxRecDepth 100000
set_option maxHeartbeats 4000000
/-! How rows, groups, answers lie in the heap. -/
namespace KR
open PySem PySem.Spec PyProof.Rows L2
open Vamvsa (Group columnsOf)
abbrev SRow := Vamvsa.Row
theorem Same.new {H : Hp} {p : Addr} {o : HO} (h : H p = none) : Same H (upd H p o) := fun b u e => by
  rw [upd_ne (ne_of_none e h)]
  exact e
/-- an object that H does not know may change -/
theorem Same.mut {H H' : Hp} {p : Addr} {o : HO} (e : Same H H') (h : H p = none) : Same H (upd H' p o) := fun b u ha => by
  rw [upd_ne (ne_of_none ha h)]
  exact e b u ha
theorem sz_le {n : Nat} (h : n ≤ 100000) : n ≤ sizeLine := Nat.le_trans h (by decide)
theorem sz_lt {n : Nat} (h : n < 100000) : n < sizeLine := Nat.lt_of_lt_of_le h (by decide)
theorem pr_imp {α β : Type} {F G : α → β → Prop} {l : List α} {m : List β} (h : Paired F l m) (f : ∀ a b, F a b → G a b) : Paired G l m := by
  induction h with
  | nil => exact .nil
  | cons r t ih => exact .cons (f _ _ r) ih
theorem pr_at {α β : Type} {F : α → β → Prop} {l : List α} {m : List β} (h : Paired F l m) : ∀ {i : Nat} {b : β}, m[i]? = some b → ∃ a, l[i]? = some a ∧ F a b := by
  induction h with
  | nil => intro i b e; simp at e
  | cons r t ih =>
    intro i b e
    cases i with
    | zero =>
      simp only [List.getElem?_cons_zero, Option.some.injEq] at e
      subst e
      exact ⟨_, rfl, r⟩
    | succ j =>
      simp only [List.getElem?_cons_succ] at e ⊢
      exact ih e
theorem pr_at' {α β : Type} {F : α → β → Prop} {l : List α} {m : List β} (h : Paired F l m) : ∀ {i : Nat} {a : α}, l[i]? = some a → ∃ b, m[i]? = some b ∧ F a b := by
  induction h with
  | nil => intro i b e; simp at e
  | cons r t ih =>
    intro i b e
    cases i with
    | zero =>
      simp only [List.getElem?_cons_zero, Option.some.injEq] at e
      subst e
      exact ⟨_, rfl, r⟩
    | succ j =>
      simp only [List.getElem?_cons_succ] at e ⊢
      exact ih e
theorem pr_app {α β : Type} {F : α → β → Prop} {l l2 : List α} {m m2 : List β} (h : Paired F l m) (g : Paired F l2 m2) : Paired F (l ++ l2) (m ++ m2) := by
  induction h with
  | nil => exact g
  | cons r t ih => exact .cons r ih
theorem pr_len {α β : Type} {F : α → β → Prop} {l : List α} {m : List β} (h : Paired F l m) : l.length = m.length := by
  induction h with
  | nil => rfl
  | cons r t ih => simp [ih]
theorem pr_drop {α β : Type} {F : α → β → Prop} {l : List α} {m : List β} (h : Paired F l m) : ∀ n, Paired F (l.drop n) (m.drop n) := by
  induction h with
  | nil => intro n; simp; exact .nil
  | cons r t ih =>
    intro n
    cases n with
    | zero => exact .cons r t
    | succ n => exact ih n
theorem pr_take {α β : Type} {F : α → β → Prop} {l : List α} {m : List β} (h : Paired F l m) : ∀ n, Paired F (l.take n) (m.take n) := by
  induction h with
  | nil => intro n; simp; exact .nil
  | cons r t ih =>
    intro n
    cases n with
    | zero => exact .nil
    | succ n => exact .cons r (ih n)
theorem kI_inj {a b : List Nat} (h : kI a = kI b) : a = b := by
  induction a generalizing b with
  | nil =>
    cases b with
    | nil => rfl
    | cons x r => cases h
  | cons x r ih =>
    cases b with
    | nil => cases h
    | cons y s =>
      have e1 : (Sum.inl (x : Int) : L2.Key) = Sum.inl (y : Int) := (List.cons.inj h).1
      have e2 := ih (List.cons.inj h).2
      have e3 : (x : Int) = (y : Int) := Sum.inl.inj e1
      rw [e2, Int.ofNat.inj e3]
/-- a line: its key; at its address what is summed, how many -/
def GrpAt (H : Hp) (p : List L2.Key × V) (x : Group) : Prop := p.1 = kI x.key ∧ ∃ t, p.2 = .ref t ∧ H t = some (.tup [.int x.sum, .int (x.n : Int)])
def AnsAt (H : Hp) (a : Addr) (l : List Group) : Prop := ∃ kvs, H a = some (.dT kvs) ∧ Paired (GrpAt H) kvs l
theorem GrpAt.mono {H H' : Hp} (e : Same H H') {p : List L2.Key × V} {x : Group} (h : GrpAt H p x) : GrpAt H' p x := by
  obtain ⟨h1, t, h2, h3⟩ := h
  exact ⟨h1, t, h2, e _ _ h3⟩
theorem AnsAt.mono {H H' : Hp} (e : Same H H') {a : Addr} {l : List Group} (h : AnsAt H a l) : AnsAt H' a l := by
  obtain ⟨kvs, h1, h2⟩ := h
  exact ⟨kvs, e _ _ h1, pr_imp h2 fun _ _ => GrpAt.mono e⟩
theorem grp_find {H : Hp} {kvs : List (List L2.Key × V)} {l : List Group} (h : Paired (GrpAt H) kvs l) (k : List Nat) :
    (findL l k = none ∧ valV kvs (kI k) = none) ∨ ∃ x t, findL l k = some x ∧ valV kvs (kI k) = some (.ref t) ∧ H t = some (.tup [.int x.sum, .int (x.n : Int)]) := by
  induction h with
  | nil => exact .inl ⟨rfl, rfl⟩
  | @cons p x ps xs r t ih =>
    obtain ⟨h1, u, h2, h3⟩ := r
    by_cases e : x.key = k
    · refine .inr ⟨x, u, ?_, ?_, h3⟩
      · unfold findL
        rw [List.find?_cons, decide_eq_true e]
      · rw [valV_pos (by rw [h1, e]), h2]
    · have ne : ¬ p.1 = kI k := fun z => e (kI_inj (h1.symm.trans z))
      have f1 : findL (x :: xs) k = findL xs k := by
        unfold findL
        rw [List.find?_cons, decide_eq_false e]
      have f2 : valV (p :: ps) (kI k) = valV ps (kI k) := by simp [valV, List.find?_cons, ne]
      rw [f1, f2]
      exact ih
theorem grp_any {H : Hp} {kvs : List (List L2.Key × V)} {l : List Group} (h : Paired (GrpAt H) kvs l) (k : List Nat) :
    (kvs.any fun kv => decide (kv.1 = kI k)) = l.any fun y => decide (y.key = k) := by
  induction h with
  | nil => rfl
  | @cons p x ps xs r t ih =>
    rw [List.any_cons, List.any_cons, ih]
    congr 1
    by_cases e : x.key = k
    · rw [decide_eq_true e, decide_eq_true (by rw [r.1, e])]
    · rw [decide_eq_false e, decide_eq_false fun z => e (kI_inj (r.1.symm.trans z))]
theorem grp_map {H : Hp} {x : Group} {t : Addr} (ht : H t = some (.tup [.int x.sum, .int (x.n : Int)])) {kvs : List (List L2.Key × V)} {l : List Group} (h : Paired (GrpAt H) kvs l) :
    Paired (GrpAt H) (kvs.map fun kv => if kv.1 = kI x.key then (kv.1, V.ref t) else kv) (l.map fun y => if y.key = x.key then x else y) := by
  induction h with
  | nil => exact .nil
  | @cons p y ps ys r tl ih =>
    refine .cons ?_ ih
    show GrpAt H (if p.1 = kI x.key then (p.1, V.ref t) else p) (if y.key = x.key then x else y)
    by_cases e : y.key = x.key
    · rw [if_pos e, if_pos (by rw [r.1, e])]
      exact ⟨by rw [r.1, e], t, rfl, ht⟩
    · rw [if_neg e, if_neg fun z => e (kI_inj (r.1.symm.trans z))]
      exact r
theorem grp_put {H : Hp} {kvs : List (List L2.Key × V)} {l : List Group} (h : Paired (GrpAt H) kvs l) {x : Group} {t : Addr} (ht : H t = some (.tup [.int x.sum, .int (x.n : Int)])) :
    Paired (GrpAt H) (putK kvs (kI x.key) (.ref t)) (putL l x) := by
  unfold putK putL
  rw [grp_any h x.key]
  split
  · exact grp_map ht h
  · exact pr_app h (.cons ⟨rfl, t, rfl, ht⟩ .nil)
theorem grp_drop {H : Hp} {kvs : List (List L2.Key × V)} {l : List Group} (h : Paired (GrpAt H) kvs l) (k : List Nat) : Paired (GrpAt H) (dropK kvs (kI k)) (dropL l k) := by
  unfold dropK dropL
  induction h with
  | nil => exact .nil
  | @cons p x ps xs r t ih =>
    rw [List.filter_cons, List.filter_cons]
    by_cases e : x.key = k
    · have e1 : p.1 = kI k := by rw [r.1, e]
      rw [if_neg (by simp [e1]), if_neg (by simp [e])]
      exact ih
    · have e1 : ¬ p.1 = kI k := fun z => e (kI_inj (r.1.symm.trans z))
      rw [if_pos (by simp [e1]), if_pos (by simp [e])]
      exact .cons r ih
theorem grp_keys {H : Hp} {kvs : List (List L2.Key × V)} {l : List Group} (h : Paired (GrpAt H) kvs l) : kvs.map (·.1) = (l.map (·.key)).map kI := by
  induction h with
  | nil => rfl
  | cons r t ih =>
    rw [List.map_cons, List.map_cons, List.map_cons, r.1, ih]
/-- keys of digits, of one length, each once -/
structure KOk (w : Nat) (l : List Group) : Prop where
  w4 : w ≤ 4
  nd : Nk l
  len : ∀ x ∈ l, x.key.length = w
  dig : ∀ x ∈ l, ∀ d ∈ x.key, d < 10
theorem KOk.nil {w : Nat} (h : w ≤ 4) : KOk w [] := ⟨h, List.nodup_nil, fun _ h => (List.not_mem_nil h).elim, fun _ h => (List.not_mem_nil h).elim⟩
theorem KOk.perm {w : Nat} {l m : List Group} (h : KOk w m) (p : l.Perm m) : KOk w l :=
  ⟨h.w4, nk_perm p h.nd, fun x hx => h.len x (p.mem_iff.mp hx), fun x hx => h.dig x (p.mem_iff.mp hx)⟩
theorem KOk.hash {P : Program} {w' : World} {w : Nat} {l : List Group} (h : KOk w l) {H : Hp} {kvs : List (List L2.Key × V)} (p : Paired (GrpAt H) kvs l) :
    (kvs.map fun p => (tupleKind (mixKind P w')).hash p.1).Nodup := by
  have e : (kvs.map fun p => (tupleKind (mixKind P w')).hash p.1) = (l.map (·.key)).map fun k => (tupleKind (mixKind P w')).hash (kI k) := by
    have := grp_keys p
    rw [show (kvs.map fun p => (tupleKind (mixKind P w')).hash p.1) = (kvs.map (·.1)).map (tupleKind (mixKind P w')).hash from by rw [List.map_map]; rfl, this, List.map_map]
    rfl
  rw [e]
  refine hash_apart P w' h.w4 (fun k hk => ?_) h.nd
  obtain ⟨x, hx, rfl⟩ := List.mem_map.mp hk
  exact ⟨h.len x hx, h.dig x hx⟩
/-- a row: at a its two parts -/
def RowAt (H : Hp) (a : Addr) (r : SRow) : Prop := ∃ t, H a = some (.tup [.ref t, .int r.m]) ∧ H t = some (.tup (vI r.vs))
def RowsAt (H : Hp) (a : Addr) (rs : List SRow) : Prop := ∃ as : List Addr, H a = some (.lst (as.map V.ref)) ∧ Paired (RowAt H) as rs
theorem RowAt.mono {H H' : Hp} (e : Same H H') {a : Addr} {r : SRow} (h : RowAt H a r) : RowAt H' a r := by
  obtain ⟨t, h1, h2⟩ := h
  exact ⟨t, e _ _ h1, e _ _ h2⟩
theorem RowsAt.mono {H H' : Hp} (e : Same H H') {a : Addr} {rs : List SRow} (h : RowsAt H a rs) : RowsAt H' a rs := by
  obtain ⟨as, h1, h2⟩ := h
  exact ⟨as, e _ _ h1, pr_imp h2 fun _ _ => RowAt.mono e⟩
/-- a table's row: so many digits -/
def RowOk (n : Nat) (r : SRow) : Prop := r.vs.length = n ∧ ∀ d ∈ r.vs, d < 10
theorem cols_lt {n g c : Nat} (h : c ∈ columnsOf n g) : c < n := List.mem_range.mp (List.mem_filter.mp h).1
theorem keyOf_dig {n g : Nat} {r : SRow} (h : RowOk n r) : ∀ d ∈ Vamvsa.keyOf n g r.vs, d < 10 := by
  intro d hd
  unfold Vamvsa.keyOf at hd
  obtain ⟨c, hc, rfl⟩ := List.mem_map.mp hd
  have lt := cols_lt hc
  have l2 : c < r.vs.length := by rw [h.1]; exact lt
  rw [List.getD_eq_getElem?_getD, List.getElem?_eq_getElem l2]
  exact h.2 _ (List.getElem_mem l2)
theorem keyOf_len (n g : Nat) (vs : List Nat) : (Vamvsa.keyOf n g vs).length = (columnsOf n g).length := by
  unfold Vamvsa.keyOf
  rw [List.length_map]
theorem cols_len (n g : Nat) : (columnsOf n g).length ≤ n := by
  unfold columnsOf
  have := List.length_filter_le (fun i => g / 2 ^ i % 2 == 1) (List.range n)
  rwa [List.length_range] at this
end KR
end
section
set_option maxRecDepth 100000
set_option maxHeartbeats 4000000
/-! groupings: columns_of, has_all, group_of. -/
namespace KR
open PySem PySem.Spec PyProof.Rows L2
open Vamvsa (Group columnsOf canFrom)
theorem int_eq {i j : Int} : decide (V.int i = V.int j) = decide (i = j) := by
  by_cases h : i = j
  · subst h
    simp
  · rw [decide_eq_false h, decide_eq_false fun z => h (V.int.inj z)]
theorem yes_of {σ : L2.St} {H : Hp} {k : Bool → Hp → Prop} (h : k true H) : tYes σ H k := h
def sp_columns_of : Sp := fun vs H Q _ => ∃ (g n : Nat), vs = [.int (g : Int)] ∧ n ≤ 4 ∧ g < 2 ^ n ∧
  ∀ H' p, Same H H' → H p = none → H' p = some (.lst ((columnsOf n g).map fun (c : Nat) => V.int (c : Int))) → Q (.ref p) H'
def sp_has_all : Sp := fun vs H Q _ => ∃ (b s n : Nat), vs = [.int (b : Int), .int (s : Int)] ∧ n ≤ 4 ∧ b < 2 ^ n ∧ s < 2 ^ n ∧ Q (.bl (canFrom n b s)) H
def sp_group_of : Sp := fun vs H Q _ => ∃ (a : Addr) (ns : List Nat) (g n : Nat), vs = [.ref a, .int (g : Int)] ∧ H a = some (.tup (vI ns)) ∧ ns.length = n ∧ n ≤ 4 ∧ g < 2 ^ n ∧
  ∀ H' p, Same H H' → H p = none → H' p = some (.tup (vI (Vamvsa.keyOf n g ns))) → Q (.ref p) H'
def colB (g i : Nat) : Bool := decide (V.int (Builtin.bitAnd ((g : Int) / 2 ^ (((0 : Int) + (i : Nat)).toNat)) 1) = V.int 1)
theorem bits_le : ∀ g : Nat, g < 16 → Builtin.Int.intBits (g : Int) ≤ 4 := by decide +kernel
theorem cols_fin : ∀ n : Nat, n < 5 → ∀ g : Nat, g < 2 ^ n → columnsOf n g = (List.range (Builtin.Int.intBits (g : Int))).filter (colB g) := by decide +kernel
theorem can_fin : ∀ n : Nat, n < 5 → ∀ b : Nat, b < 2 ^ n → ∀ s : Nat, s < 2 ^ n → decide (V.int (Builtin.bitAnd (b : Int) (s : Int)) = V.int (s : Int)) = canFrom n b s := by decide +kernel
theorem pow_le {n g : Nat} (h : n ≤ 4) (hg : g < 2 ^ n) : g < 16 := Nat.lt_of_lt_of_le hg (Nat.pow_le_pow_right (by decide) h)
theorem filter_snoc {α : Type} (f : Nat → Bool) (v : Nat → α) (i : Nat) : ((List.range (i + 1)).filter f).map v = ((List.range i).filter f).map v ++ (if f i = true then [v i] else []) := by
  rw [List.range_succ, List.filter_append, List.map_append]
  congr 1
  by_cases h : f i = true
  · rw [if_pos h, List.filter_cons, if_pos h]
    rfl
  · rw [if_neg h, List.filter_cons, if_neg h]
    rfl
section
variable {P : Program} {w : World} {K : PySem.W.Frag} {mg : Str → Option Value} {base : Heap} {A : Ads}
theorem ok_columns_of (T : Txt K mg A) : Ok P w K mg base CX0 1 A.f_columns_of P_columns_of (sp_columns_of) := by
  obtain ⟨fd, F, b⟩ := T.F_columns_of
  refine ⟨fd, b, F.ok sc_columns_of (fun vs H Q E h => by
    obtain ⟨g, n, rfl, _⟩ := h
    rfl) (fun cdv Ar outer s H vs Q E hr h => ?_)⟩
  refine ⟨_, (pss_one (ps_ret (pe_lc (own := [("k", 1)]) rfl sc_columns_of.nd (pi_range1 rfl T.n_range (pa_cons (pe_bits (pv 0)) pa_nil)) (blkOk_by (own := [("k", 1)]) (N := N_columns_of) (sc := defScope s_columns_of) (by decide +kernel)) (fun _ _ _ _ _ => (pg_name (i := 1) sc_columns_of.nd rfl (by first | exact Or.inl rfl | exact Or.inr rfl))) (fun _ _ _ _ _ => (pts_one (pt_cmpR op_eq (pe_op op_and (pe_op op_shr (pv 0) (pv 1)) pe_int) pe_int (nomark _)))) (fun _ _ _ _ _ => (pv 1))))), ?_⟩
  obtain ⟨g, n, rfl, h4, hg, k⟩ := h
  have g16 := pow_le h4 hg
  have b4 := bits_le g g16
  refine ⟨_, rfl, _, rfl, _, rfl, by omega, by omega, fun D hD => ?_⟩
  refine lc_range (lo := 0) (n := _) (fun i H' => Same H H' ∧ H' D = some (.lst (((List.range i).filter (colB g)).map fun (c : Nat) => V.int (c : Int)))) ⟨Same.new hD, upd_same⟩ ?_ ?_
  · rintro i H' hi ⟨e, hD'⟩
    have lt : i < 4 := by omega
    refine ⟨rfl, ?_⟩
    refine ⟨_, rfl, _, rfl, _, _, rfl, rfl, by omega, _, _, rfl, rfl, rfl, _, rfl, ?_⟩
    show if colB g i = true then _ else _
    have z : (0 : Int) + (i : Nat) = (i : Int) := Int.zero_add _
    by_cases c : colB g i = true
    · rw [if_pos c]
      refine ⟨_, rfl, _, hD', ?_, Same.mut e hD, ?_⟩
      · refine sz_lt ?_
        rw [List.length_map]
        have := List.length_filter_le (colB g) (List.range i)
        rw [List.length_range] at this
        omega
      · rw [filter_snoc, if_pos c, upd_same, z]
    · rw [if_neg c]
      refine ⟨e, ?_⟩
      rw [filter_snoc, if_neg c, List.append_nil]
      exact hD'
  · rintro H' ⟨e, hD'⟩
    refine k H' D e hD ?_
    rw [hD', cols_fin n (by omega) g hg]
    rfl
theorem ok_has_all (T : Txt K mg A) : Ok P w K mg base CX0 1 A.f_has_all P_has_all (sp_has_all) := by
  obtain ⟨fd, F, b⟩ := T.F_has_all
  refine ⟨fd, b, F.ok sc_has_all (fun vs H Q E h => by
    obtain ⟨b', s', n, rfl, _⟩ := h
    rfl) (fun cdv Ar outer s H vs Q E hr h => ?_)⟩
  refine ⟨_, (pss_one (ps_ret (pe_cmpR op_eq (pe_op op_and (pv 0) (pv 1)) (pv 1) (nomark _)))), ?_⟩
  obtain ⟨b', s', n, rfl, h4, hb, hs, k⟩ := h
  refine ⟨_, rfl, _, rfl, _, _, rfl, rfl, _, rfl, rfl, ?_⟩
  show Q (.bl (decide (V.int (Builtin.bitAnd (b' : Int) (s' : Int)) = V.int (s' : Int)))) H
  rw [can_fin n (by omega) b' hb s' hs]
  exact k
theorem ok_group_of (T : Txt K mg A) : Ok P w K mg base CX0 2 A.f_group_of P_group_of (sp_group_of) := by
  obtain ⟨fd, F, b⟩ := T.F_group_of
  obtain ⟨fd_columns_of, b_columns_of, G_columns_of⟩ := ok_columns_of (P := P) (w := w) (base := base) T
  refine ⟨fd, b, F.ok sc_group_of (fun vs H Q E h => by
    obtain ⟨a, ns, g, n, rfl, _⟩ := h
    rfl) (fun cdv Ar outer s H vs Q E hr h => ?_)⟩
  refine ⟨_, (pss_one (ps_ret (pe_callTy call_tuple_of (by rfl) T.n_tuple (by decide +kernel) (pa_cons (pe_lc (own := [("k", 2)]) rfl sc_group_of.nd (pi_list (pe_call G_columns_of (hr.mono (by decide)) rfl T.g_columns_of T.k_columns_of b_columns_of .nil pass0 (pa_cons (pv 1) pa_nil))) (blkOk_by (own := [("k", 2)]) (N := N_group_of) (sc := defScope s_group_of) (by decide +kernel)) (fun _ _ _ _ _ => (pg_name (i := 2) sc_group_of.nd rfl (by first | exact Or.inl rfl | exact Or.inr rfl))) (fun _ _ _ _ _ => pts_nil) (fun _ _ _ _ _ => (pe_ix (ix_tupK (K := K)) (pv 0) (pv 2) (fun _ _ => rfl)))) pa_nil)))), ?_⟩
  obtain ⟨a, ns, g, n, rfl, ha, hl, h4, hg, k⟩ := h
  refine ⟨_, rfl, g, n, rfl, h4, hg, fun H1 p e hp hp1 => ?_⟩
  refine ⟨p, rfl, ⟨_, SqL.of hp1⟩, fun D hD => ?_⟩
  have colsz := cols_len n g
  refine lc_list (K := K) (a := p) (xs := (columnsOf n g).map fun (c : Nat) => V.int (c : Int)) (fun i H' => Same H1 H' ∧ H' D = some (.lst (((columnsOf n g).take i).map fun (c : Nat) => V.int ((ns.getD c 0 : Nat) : Int))))
    ⟨Same.new hD, upd_same⟩ (fun i H' _ q => SqL.of (q.1 _ _ hp1)) ?_ ?_
  · rintro i x H' hi ⟨e', hD'⟩
    obtain ⟨c, hc, rfl⟩ : ∃ c, (columnsOf n g)[i]? = some c ∧ x = V.int (c : Int) := by
      rw [List.getElem?_map] at hi
      cases q : (columnsOf n g)[i]? with
      | none => rw [q] at hi; cases hi
      | some c => rw [q] at hi; exact ⟨c, rfl, (Option.some.inj hi).symm⟩
    have clt : c < n := cols_lt (List.mem_of_getElem? hc)
    refine ⟨rfl, ?_⟩
    refine yes_of (iteT ?_)
    have hv : (vI ns)[c]? = some (V.int ((ns.getD c 0 : Nat) : Int)) := by
      rw [List.getElem?_map, List.getElem?_eq_getElem (by omega : c < ns.length), List.getD_eq_getElem?_getD, List.getElem?_eq_getElem (by omega : c < ns.length)]
      rfl
    refine ⟨_, rfl, _, rfl, a, vI ns, _, _, rfl, rfl, SqT.of (e' _ _ (e _ _ ha)), at_of rfl hv, _, hD', ?_, Same.mut e' hD, ?_⟩
    · refine sz_lt ?_
      rw [List.length_map, List.length_take]
      omega
    · rw [upd_same, List.take_add_one, hc, List.map_append]
      rfl
  · rintro H' ⟨e', hD'⟩
    refine ⟨D, _, rfl, .inl ⟨SqL.of hD', fun q hq => ?_⟩⟩
    have e2 : Same H (upd H' q (.tup (((columnsOf n g).take ((columnsOf n g).map fun (c : Nat) => V.int (c : Int)).length).map fun (c : Nat) => V.int ((ns.getD c 0 : Nat) : Int)))) := (e.trans e').trans (Same.new hq)
    refine k _ q e2 ((e.trans e').free hq) ?_
    rw [upd_same, List.length_map, List.take_length]
    show _ = some (HO.tup (((columnsOf n g).map fun i => ns.getD i 0).map fun (n : Nat) => V.int (n : Int)))
    rw [List.map_map]
    rfl
end
end KR
end
section
set_option maxRecDepth 100000
set_option maxHeartbeats 4000000
/-! groupings: with_more. -/
namespace KR
open PySem PySem.Spec PyProof.Rows L2
open Vamvsa (Group columnsOf canFrom)
theorem iteT' {c : Bool} {A B : Prop} (hc : c = true) (h : A) : if c = true then A else B := by
  rw [if_pos hc]
  exact h
theorem iteF' {c : Bool} {A B : Prop} (hc : c = false) (h : B) : if c = true then A else B := by
  rw [hc]
  exact iteF h
def sp_with_more : Sp := fun vs H Q _ => ∃ (a b : Addr) (l : List Group) (k : List Nat) (wd : Nat) (s n : Int), vs = [.ref a, .ref b, .int s, .int n] ∧ AnsAt H a l ∧ H b = some (.tup (vI k)) ∧
  KOk wd l ∧ l.length ≤ 1000 ∧ 0 ≤ ((oldL l k).n : Int) + n ∧
  ∀ H' p, Same H H' → H p = none → AnsAt H' p (wm l k s n) → Q (.ref p) H'
theorem find_old {H : Hp} {kvs : List (List L2.Key × V)} {l : List Group} (h : Paired (GrpAt H) kvs l) (k : List Nat) {t0 : Addr} (h0 : H t0 = some (.tup [.int 0, .int 0])) :
    ∃ t, (valV kvs (kI k)).getD (.ref t0) = .ref t ∧ H t = some (.tup [.int (oldL l k).sum, .int ((oldL l k).n : Int)]) := by
  unfold oldL
  rcases grp_find h k with ⟨h1, h2⟩ | ⟨x, t, h1, h2, h3⟩
  · rw [h1, h2]
    exact ⟨t0, rfl, h0⟩
  · rw [h1, h2]
    exact ⟨t, rfl, h3⟩
theorem putL_len (l : List Group) (x : Group) : (putL l x).length ≤ l.length + 1 := by
  unfold putL
  split
  · rw [List.length_map]
    omega
  · rw [List.length_append]
    exact Nat.le_refl _
theorem putK_val {kvs : List (List L2.Key × V)} {k : List L2.Key} {v : V} : valV (putK kvs k v) k = some v := by
  unfold putK
  split
  · rename_i h
    obtain ⟨p, hp, e⟩ := List.any_eq_true.mp h
    have e' := of_decide_eq_true e
    clear h e
    induction kvs with
    | nil => exact (List.not_mem_nil hp).elim
    | cons q r ih =>
      by_cases c : q.1 = k
      · rw [List.map_cons, if_pos c]
        exact valV_pos c
      · have hp' : p ∈ r := by
          rcases List.mem_cons.mp hp with z | z
          · exact absurd (by rw [← e', z]) c
          · exact z
        rw [List.map_cons, if_neg c]
        have : valV (q :: r.map fun kv => if kv.1 = k then (kv.1, v) else kv) k = valV (r.map fun kv => if kv.1 = k then (kv.1, v) else kv) k := by simp [valV, List.find?_cons, c]
        rw [this]
        exact ih hp'
  · rename_i h
    have none : valV kvs k = none := by
      cases e : valV kvs k with
      | none => rfl
      | some u =>
        have := valV_any (kvs := kvs) (k := k)
        rw [e] at this
        exact absurd this h
    unfold valV at none ⊢
    rw [List.find?_append]
    cases e : kvs.find? fun kv => decide (kv.1 = k) with
    | none => simp
    | some p => rw [e] at none; cases none
section
variable {P : Program} {w : World} {K : PySem.W.Frag} {mg : Str → Option Value} {base : Heap} {A : Ads}
theorem ok_with_more (T : Txt K mg A) : Ok P w K mg base CX0 1 A.f_with_more P_with_more (sp_with_more) := by
  obtain ⟨fd, F, b⟩ := T.F_with_more
  refine ⟨fd, b, F.ok sc_with_more (fun vs H Q E h => by
    obtain ⟨a, b', l, k, wd, s', n, rfl, _⟩ := h
    rfl) (fun cdv Ar outer s H vs Q E hr h => ?_)⟩
  refine ⟨_, (pss_cons (ps_set (i := 4) sc_with_more.nd rfl (by first | exact Or.inl rfl | exact Or.inr rfl) (pe_callTy (call_dictT hr.units) (by rfl) T.n_dict (by decide +kernel) (pa_cons (pv 0) pa_nil)))
    (pss_cons (ps_set (i := 5) sc_with_more.nd rfl (by first | exact Or.inl rfl | exact Or.inr rfl) (pe_dget2 (hu_of hr) (pv 0) (pv 1) (pe_tup (pa_cons pe_int (pa_cons pe_int pa_nil))) ⟨rfl, rfl, rfl, rfl⟩))
    (pss_cons (ps_dput (hu_of hr) (pv 4) (pv 1) (pe_tup (pa_cons (pe_op op_add (pe_ix ix_tup (pv 5) pe_int (fun _ _ => rfl)) (pv 2)) (pa_cons (pe_op op_add (pe_ix ix_tup (pv 5) pe_int (fun _ _ => rfl)) (pv 3)) pa_nil))) rfl)
    (pss_cons (ps_if (pt_cmpR op_eq (pe_ix ix_tup (pe_dget (hu_of hr) (pv 4) (pv 1) (fun _ _ => rfl)) pe_int (fun _ _ => rfl)) pe_int (nomark _)) (pss_one (ps_expr (pe_bm PySem.F.plainAttrs_dict PySem.F.slot_dict_pop PySem.F.type_dict_pop (mt_pop1T (hu_of hr)) (pv 4) (pa_cons (pv 1) pa_nil)))) pss_nil)
    (pss_one (ps_ret (pv 4))))))), ?_⟩
  obtain ⟨a, b', l, k, wd, s', n, rfl, ⟨kvs, ha, pa⟩, hb, ok, hl, hn, kq⟩ := h
  have lenk := pr_len pa
  -- found = dict(answer)
  refine ⟨_, rfl, a, kvs, rfl, ha, ok.hash pa, fun p hp => ?_⟩
  have nb : b' ≠ p := ne_of_none hb hp
  have na : a ≠ p := ne_of_none ha hp
  -- old = answer.get(group, (0, 0))
  refine ⟨_, rfl, a, rfl, .inr ⟨kvs, .inl (by rw [upd_ne na]; exact ha)⟩, _, rfl, (by show 2 ≤ sizeLine; decide), fun t0 ht0 => ?_⟩
  have e1 : Same H (upd (upd H p (.dT kvs)) t0 (.tup [.int 0, .int 0])) := (Same.new hp).trans (Same.new ht0)
  have kb : (kI k).map kV = vI k := kI_vI k
  refine ⟨_, DGet.t (k := kI k) (e1 _ _ ha) (by rw [kb]; exact e1 _ _ hb), ?_⟩
  obtain ⟨t, et, ht⟩ := find_old (pr_imp pa fun _ _ => GrpAt.mono e1) k (t0 := t0) upd_same
  rw [et]
  -- found[group] = (old[0] + summed, old[1] + many)
  refine ⟨_, rfl, _, _, _, _, rfl, rfl, SqT.of ht, at_of (j := 0) rfl rfl, _, rfl, _, _, rfl, rfl, ?_⟩
  refine ⟨_, rfl, _, _, _, _, rfl, rfl, SqT.of ht, at_of (j := 1) rfl rfl, _, rfl, _, _, rfl, rfl, (by show 2 ≤ sizeLine; decide), fun q hq => ?_⟩
  have hp0 : (upd (upd H p (.dT kvs)) t0 (.tup [.int 0, .int 0])) p = some (.dT kvs) := by
    rw [upd_ne (ne_of_none (H := upd H p (.dT kvs)) upd_same ht0)]
    exact upd_same
  have e2 := e1.trans (Same.new (o := .tup [.int ((oldL l k).sum + s'), .int (((oldL l k).n : Int) + n)]) hq)
  have hp1 : (upd (upd (upd H p (.dT kvs)) t0 (.tup [.int 0, .int 0])) q (.tup [.int ((oldL l k).sum + s'), .int (((oldL l k).n : Int) + n)])) p = some (.dT kvs) := Same.new hq _ _ hp0
  refine ⟨_, rfl, _, rfl, p, _, rfl, DPut.t (k := kI k) hp1 (by rw [kb]; exact e2 _ _ hb) (sz_lt (by omega)), ?_⟩
  -- if found[group][1] == 0
  have hq1 : (upd (upd (upd H p (.dT kvs)) t0 (.tup [.int 0, .int 0])) q (.tup [.int ((oldL l k).sum + s'), .int (((oldL l k).n : Int) + n)])) q = some (.tup [.int (newG l k s' n).sum, .int ((newG l k s' n).n : Int)]) := by
    rw [upd_same]
    show _ = some (HO.tup [.int ((oldL l k).sum + s'), .int ((((oldL l k).n : Int) + n).toNat : Int)])
    rw [Int.toNat_of_nonneg hn]
  have pput := grp_put (pr_imp pa fun _ _ => GrpAt.mono e2) (x := newG l k s' n) hq1
  generalize (upd (upd (upd H p (.dT kvs)) t0 (.tup [.int 0, .int 0])) q (.tup [.int ((oldL l k).sum + s'), .int (((oldL l k).n : Int) + n)])) = H3 at hp1 e2 hq1 pput ⊢
  have e3 : Same H (upd H3 p (.dT (putK kvs (kI k) (.ref q)))) := Same.mut e2 hp
  have nqp : q ≠ p := fun z => by
    rw [z, hp1] at hq1
    cases hq1
  have pput3 : Paired (GrpAt (upd H3 p (.dT (putK kvs (kI k) (.ref q))))) (putK kvs (kI k) (.ref q)) (putL l (newG l k s' n)) := pr_imp pput fun z x hz => by
    obtain ⟨h1, u, h2, h3⟩ := hz
    refine ⟨h1, u, h2, ?_⟩
    have : u ≠ p := fun z => by
      rw [z, hp1] at h3
      cases h3
    rw [upd_ne this]
    exact h3
  have dg : DGet (upd H3 p (.dT (putK kvs (kI k) (.ref q)))) p (.ref b') (some (.ref q)) := by
    have z := DGet.t (k := kI k) (kvs := putK kvs (kI k) (.ref q)) (H := upd H3 p (.dT (putK kvs (kI k) (.ref q)))) (a := p) upd_same (by rw [kb]; exact e3 _ _ hb)
    rw [putK_val] at z
    exact z
  refine ⟨_, rfl, _, rfl, p, .ref q, rfl, dg, q, _, _, _, rfl, rfl, SqT.of (by rw [upd_ne nqp]; exact hq1), at_of (j := 1) rfl rfl, rfl, _, rfl, ?_⟩
  rw [int_eq]
  by_cases c : (newG l k s' n).n = 0
  · refine iteT' (by rw [c]; rfl) ?_
    refine ⟨_, rfl, .inr (.inr (.inl ⟨rfl, .inr ⟨_, upd_same⟩⟩)), _, rfl, p, _, kI k, b', _, rfl, rfl, upd_same, (by rw [kb]; exact e3 _ _ hb), putK_val, ?_⟩
    refine ⟨_, rfl, ?_⟩
    rw [upd_upd]
    have e4 : Same H (upd H3 p (.dT (dropK (putK kvs (kI k) (.ref q)) (kI k)))) := Same.mut e2 hp
    refine kq _ p e4 hp ⟨_, upd_same, ?_⟩
    unfold wm
    rw [if_pos c]
    refine pr_imp (grp_drop pput k) fun z x hz => ?_
    obtain ⟨h1, u, h2, h3⟩ := hz
    refine ⟨h1, u, h2, ?_⟩
    have : u ≠ p := fun z => by
      rw [z, hp1] at h3
      cases h3
    rw [upd_ne this]
    exact h3
  · refine iteF' (by
      refine decide_eq_false fun z => c ?_
      omega) ?_
    refine ⟨_, rfl, ?_⟩
    refine kq _ p e3 hp ⟨_, upd_same, ?_⟩
    unfold wm
    rw [if_neg c]
    exact pput3
end
end KR
end
section
set_option maxRecDepth 100000
set_option maxHeartbeats 4000000
/-! groupings: answer_of. -/
namespace KR
open PySem PySem.Spec PyProof.Rows L2
open Vamvsa (Group columnsOf canFrom)
theorem putL_mem {l : List Group} {x y : Group} (h : y ∈ putL l x) : y = x ∨ y ∈ l := by
  unfold putL at h
  split at h
  · obtain ⟨z, hz, e⟩ := List.mem_map.mp h
    split at e
    · exact .inl e.symm
    · exact .inr (e ▸ hz)
  · rcases List.mem_append.mp h with m | m
    · exact .inr m
    · exact .inl (List.mem_singleton.mp m)
theorem putL_nk {l : List Group} {x : Group} (h : Nk l) : Nk (putL l x) := by
  unfold putL
  split
  · unfold Nk at h ⊢
    rw [List.map_map]
    have : (l.map fun y => (if y.key = x.key then x else y).key) = l.map (·.key) := List.map_congr_left fun y _ => by
      by_cases c : y.key = x.key
      · rw [if_pos c, c]
      · rw [if_neg c]
    show (l.map fun y => (if y.key = x.key then x else y).key).Nodup
    rw [this]
    exact h
  · rename_i c
    unfold Nk
    rw [List.map_append]
    refine nd_snoc h fun m => c ?_
    obtain ⟨y, hy, e⟩ := List.mem_map.mp m
    exact List.any_eq_true.mpr ⟨y, hy, decide_eq_true e⟩
theorem KOk.wm {wd : Nat} {l : List Group} (h : KOk wd l) {k : List Nat} (hk : k.length = wd) (hd : ∀ d ∈ k, d < 10) (s n : Int) : KOk wd (wm l k s n) := by
  have p : KOk wd (putL l (newG l k s n)) := ⟨h.w4, putL_nk h.nd, fun x hx => by
      rcases putL_mem hx with e | m
      · rw [e]; exact hk
      · exact h.len x m, fun x hx => by
      rcases putL_mem hx with e | m
      · rw [e]; exact hd
      · exact h.dig x m⟩
  unfold KR.wm
  split
  · refine ⟨p.w4, ?_, fun x hx => p.len x (List.mem_filter.mp hx).1, fun x hx => p.dig x (List.mem_filter.mp hx).1⟩
    exact (List.filter_sublist.map _).nodup p.nd
  · exact p
theorem wm_len (l : List Group) (k : List Nat) (s n : Int) : (wm l k s n).length ≤ l.length + 1 := by
  unfold wm
  split
  · exact Nat.le_trans (List.length_filter_le _ _) (putL_len _ _)
  · exact putL_len _ _
/-- answer_of -/
def ansL (n g : Nat) (rs : List SRow) : List Group := rs.foldl (fun l r => wm l (Vamvsa.keyOf n g r.vs) r.m 1) []
theorem take_snoc {α : Type} {l : List α} {i : Nat} {x : α} (h : l[i]? = some x) : l.take (i + 1) = l.take i ++ [x] := by
  rw [List.take_add_one, h]
  rfl
theorem ansL_snoc (n g : Nat) (rs : List SRow) (r : SRow) : ansL n g (rs ++ [r]) = wm (ansL n g rs) (Vamvsa.keyOf n g r.vs) r.m 1 := by
  unfold ansL
  rw [List.foldl_append]
  rfl
theorem ansL_ok {n g : Nat} (h4 : n ≤ 4) : ∀ (rs : List SRow) (l : List Group), KOk (columnsOf n g).length l → (∀ r ∈ rs, RowOk n r) →
    KOk (columnsOf n g).length (rs.foldl (fun l r => wm l (Vamvsa.keyOf n g r.vs) r.m 1) l) ∧ (rs.foldl (fun l r => wm l (Vamvsa.keyOf n g r.vs) r.m 1) l).length ≤ l.length + rs.length
  | [], l, h, _ => ⟨h, Nat.le_refl _⟩
  | r :: rs, l, h, hr => by
    have h1 := h.wm (keyOf_len n g r.vs) (keyOf_dig (g := g) (hr r List.mem_cons_self)) r.m 1
    obtain ⟨a, b⟩ := ansL_ok h4 rs _ h1 fun x hx => hr x (List.mem_cons_of_mem _ hx)
    refine ⟨a, ?_⟩
    have := wm_len l (Vamvsa.keyOf n g r.vs) r.m 1
    rw [List.length_cons, List.foldl_cons]
    omega
def sp_answer_of : Sp := fun vs H Q _ => ∃ (a : Addr) (rs : List SRow) (g n : Nat), vs = [.ref a, .int (g : Int)] ∧ RowsAt H a rs ∧ (∀ r ∈ rs, RowOk n r) ∧ rs.length ≤ 100 ∧ n ≤ 4 ∧ g < 2 ^ n ∧
  ∀ H' p, Same H H' → H p = none → AnsAt H' p (ansL n g rs) → Q (.ref p) H'
section
variable {P : Program} {w : World} {K : PySem.W.Frag} {mg : Str → Option Value} {base : Heap} {A : Ads}
theorem ok_answer_of (T : Txt K mg A) : Ok P w K mg base CX0 3 A.f_answer_of P_answer_of (sp_answer_of) := by
  obtain ⟨fd, F, b⟩ := T.F_answer_of
  obtain ⟨fd_group_of, b_group_of, G_group_of⟩ := ok_group_of (P := P) (w := w) (base := base) T
  obtain ⟨fd_with_more, b_with_more, G_with_more⟩ := ok_with_more (P := P) (w := w) (base := base) T
  refine ⟨fd, b, F.ok sc_answer_of (fun vs H Q E h => by
    obtain ⟨a, rs, g, n, rfl, _⟩ := h
    rfl) (fun cdv Ar outer s H vs Q E hr h => ?_)⟩
  refine ⟨_, (pss_cons (ps_set (i := 2) sc_answer_of.nd rfl (by first | exact Or.inl rfl | exact Or.inr rfl) pe_dnewT)
    (pss_cons (ps_for PassesOwn.never rfl (pi_list (pv 0)) (pg_tup rfl (pgs_cons (pg_name (i := 3) sc_answer_of.nd rfl (by first | exact Or.inl rfl | exact Or.inr rfl)) (pgs_cons (pg_name (i := 4) sc_answer_of.nd rfl (by first | exact Or.inl rfl | exact Or.inr rfl)) pgs_nil))) (pss_one (ps_set (i := 2) sc_answer_of.nd rfl (by first | exact Or.inl rfl | exact Or.inr rfl) (pe_call G_with_more (hr.mono (by decide)) rfl T.g_with_more T.k_with_more b_with_more .nil pass0 (pa_cons (pv 2) (pa_cons (pe_call G_group_of (hr.mono (by decide)) rfl T.g_group_of T.k_group_of b_group_of .nil pass0 (pa_cons (pv 3) (pa_cons (pv 1) pa_nil))) (pa_cons (pv 4) (pa_cons pe_int pa_nil))))))))
    (pss_one (ps_ret (pv 2))))), ?_⟩
  obtain ⟨a, rs, g, n, rfl, ⟨as, ha, pa⟩, ro, hl, h4, hg, k⟩ := h
  -- found = {}
  intro p0 hp0
  have lenr := pr_len pa
  refine ⟨_, rfl, a, rfl, ⟨_, SqL.of (Same.new hp0 _ _ ha)⟩, for_list (K := K) (a := a) (xs := as.map V.ref)
    (fun i σ H' => ∃ (p : Addr) (v3 v4 : Option V), σ = [some (.ref a), some (.int (g : Int)), some (.ref p), v3, v4] ∧ Same H H' ∧ H p = none ∧ AnsAt H' p (ansL n g (rs.take i)))
    ⟨p0, none, none, rfl, Same.new hp0, hp0, ⟨[], upd_same, .nil⟩⟩ (fun i σ H' _ ⟨_, _, _, _, e, _⟩ => SqL.of (e _ _ ha)) ?_ ?_⟩
  · rintro i x σ H' hi ⟨p, v3, v4, rfl, e, hp, an⟩
    obtain ⟨ra, hra, rfl⟩ : ∃ ra, as[i]? = some ra ∧ x = V.ref ra := by
      rw [List.getElem?_map] at hi
      cases q : as[i]? with
      | none => rw [q] at hi; cases hi
      | some c => rw [q] at hi; exact ⟨c, rfl, (Option.some.inj hi).symm⟩
    obtain ⟨r, hr, t, h1, h2⟩ := pr_at' pa hra
    have rok := ro r (List.mem_of_getElem? hr)
    have okA := (ansL_ok (n := n) (g := g) h4 (rs.take i) [] (KOk.nil (Nat.le_trans (cols_len n g) h4)) fun x hx => ro x (List.mem_of_mem_take hx))
    refine ⟨ra, _, rfl, SqT.of (e _ _ h1), rfl, _, _, rfl, _, _, rfl, rfl, ?_⟩
    refine ⟨_, rfl, ?_⟩
    refine ⟨_, rfl, _, rfl, t, r.vs, g, n, rfl, e _ _ h2, rok.1, h4, hg, fun H1 q e1 hq hq1 => ?_⟩
    refine ⟨_, rfl, ?_⟩
    refine ⟨p, q, ansL n g (rs.take i), Vamvsa.keyOf n g r.vs, (columnsOf n g).length, r.m, 1, rfl, an.mono e1, hq1, okA.1, ?_, by omega, fun H2 p2 e2 hp2 an2 => ?_⟩
    · have z : (ansL n g (rs.take i)).length ≤ 0 + (rs.take i).length := okA.2
      rw [List.length_take] at z
      omega
    · refine ⟨p2, _, _, rfl, (e.trans e1).trans e2, (e.trans e1).free hp2, ?_⟩
      rw [take_snoc hr, ansL_snoc]
      exact an2
  · rintro σ H' ⟨p, v3, v4, rfl, e, hp, an⟩
    rw [List.length_map, lenr, List.take_length] at an
    exact ⟨_, rfl, k H' p e hp an⟩
end
end KR
end
section
set_option maxRecDepth 100000
set_option maxHeartbeats 4000000
/-! groupings: worked_out. -/
namespace KR
open PySem PySem.Spec PyProof.Rows L2
open Vamvsa (Group columnsOf canFrom)
/-- a group's key in a coarser grouping -/
def projK (n big small : Nat) (k : List Nat) : List Nat := (columnsOf n small).map fun i => k.getD ((columnsOf n big).findIdx fun c => c == i) 0
def rollL (n big small : Nat) (l : List Group) : List Group := l.foldl (fun acc x => wm acc (projK n big small x.key) x.sum (x.n : Int)) []
theorem rollL_snoc (n big small : Nat) (l : List Group) (x : Group) : rollL n big small (l ++ [x]) = wm (rollL n big small l) (projK n big small x.key) x.sum (x.n : Int) := by
  unfold rollL
  rw [List.foldl_append]
  rfl
def placeB (n big small i : Nat) : Bool := canFrom n small (2 ^ (columnsOf n big).getD i 0)
theorem places_fin : ∀ n : Nat, n < 5 → ∀ b : Nat, b < 2 ^ n → ∀ s : Nat, s < 2 ^ n → canFrom n b s = true →
    (List.range (columnsOf n b).length).filter (placeB n b s) = (columnsOf n s).map fun i => (columnsOf n b).findIdx fun c => c == i := by decide +kernel
theorem place_lt {n b s : Nat} (hn : n < 5) (hb : b < 2 ^ n) (hs : s < 2 ^ n) (hc : canFrom n b s = true) : ∀ i ∈ columnsOf n s, ((columnsOf n b).findIdx fun c => c == i) < (columnsOf n b).length := by
  intro i hi
  have m : ((columnsOf n b).findIdx fun c => c == i) ∈ (columnsOf n s).map fun i => (columnsOf n b).findIdx fun c => c == i := List.mem_map.mpr ⟨i, hi, rfl⟩
  rw [← places_fin n hn b hb s hs hc] at m
  exact List.mem_range.mp (List.mem_filter.mp m).1
theorem projK_ok {n b s : Nat} (hn : n < 5) (hb : b < 2 ^ n) (hs : s < 2 ^ n) (hc : canFrom n b s = true) {k : List Nat} (hl : k.length = (columnsOf n b).length) (hd : ∀ d ∈ k, d < 10) :
    (projK n b s k).length = (columnsOf n s).length ∧ ∀ d ∈ projK n b s k, d < 10 := by
  unfold projK
  refine ⟨List.length_map .., fun d m => ?_⟩
  obtain ⟨i, hi, rfl⟩ := List.mem_map.mp m
  have lt := place_lt hn hb hs hc i hi
  rw [List.getD_eq_getElem?_getD, List.getElem?_eq_getElem (by omega)]
  exact hd _ (List.getElem_mem _)
theorem rollL_ok {n b s : Nat} (hn : n < 5) (hb : b < 2 ^ n) (hs : s < 2 ^ n) (hc : canFrom n b s = true) : ∀ (l acc : List Group), KOk (columnsOf n s).length acc → (∀ x ∈ l, x.key.length = (columnsOf n b).length ∧ ∀ d ∈ x.key, d < 10) →
    KOk (columnsOf n s).length (l.foldl (fun acc x => wm acc (projK n b s x.key) x.sum (x.n : Int)) acc) ∧ (l.foldl (fun acc x => wm acc (projK n b s x.key) x.sum (x.n : Int)) acc).length ≤ acc.length + l.length
  | [], acc, h, _ => ⟨h, Nat.le_refl _⟩
  | x :: l, acc, h, hx => by
    obtain ⟨x1, x2⟩ := hx x List.mem_cons_self
    obtain ⟨k1, k2⟩ := projK_ok hn hb hs hc x1 x2
    obtain ⟨a1, a2⟩ := rollL_ok hn hb hs hc l _ (h.wm k1 k2 x.sum (x.n : Int)) fun y hy => hx y (List.mem_cons_of_mem _ hy)
    refine ⟨a1, ?_⟩
    have := wm_len acc (projK n b s x.key) x.sum (x.n : Int)
    rw [List.length_cons, List.foldl_cons]
    omega
/-- a locked dict is let go -/
theorem AnsAt.unlock {H : Hp} {a p : Addr} {o : Obj} {u : HO} {l : List Group} (h : AnsAt H p l) (ha : H a = some (.frz o u)) : AnsAt (upd H a u) p l := by
  obtain ⟨kvs, h1, h2⟩ := h
  have n1 : p ≠ a := ne_of h1 ha (fun z => nomatch z)
  refine ⟨kvs, by rw [upd_ne n1]; exact h1, pr_imp h2 fun q x hq => ?_⟩
  obtain ⟨q1, t, q2, q3⟩ := hq
  exact ⟨q1, t, q2, by rw [upd_ne (ne_of q3 ha (fun z => nomatch z))]; exact q3⟩
theorem walk_itemsT {d : Addr} {o : Obj} {kvs : List (List L2.Key × V)} : Walk (Itit d o kvs) kvs.length (fun H => H d = some (.frz o (.dT kvs)))
    (fun i H x H' => ∃ (T q : Addr) (k : List L2.Key) (v : V), kvs[i]? = some (k, v) ∧ x = .ref T ∧ H T = none ∧ H q = some (.tup (k.map kV)) ∧ H' = upd H T (.tup [.ref q, v])) :=
  ⟨fun _ _ hi h => ⟨h, hi⟩, fun _ h => ⟨h, Nat.le_refl _⟩, fun _ _ _ _ _ _ y => y⟩
def sp_worked_out : Sp := fun vs H Q _ => ∃ (a : Addr) (l : List Group) (b s n : Nat), vs = [.ref a, .int (b : Int), .int (s : Int)] ∧ AnsAt H a l ∧ KOk (columnsOf n b).length l ∧ l.length ≤ 100 ∧ n ≤ 4 ∧ b < 2 ^ n ∧ s < 2 ^ n ∧ canFrom n b s = true ∧
  ∀ H' p, Same H H' → H p = none → AnsAt H' p (rollL n b s l) → Q (.ref p) H'
section
variable {P : Program} {w : World} {K : PySem.W.Frag} {mg : Str → Option Value} {base : Heap} {A : Ads}
theorem ok_worked_out (T : Txt K mg A) : Ok P w K mg base CX0 2 A.f_worked_out P_worked_out (sp_worked_out) := by
  obtain ⟨fd, F, b⟩ := T.F_worked_out
  obtain ⟨fd_columns_of, b_columns_of, G_columns_of⟩ := ok_columns_of (P := P) (w := w) (base := base) T
  obtain ⟨fd_has_all, b_has_all, G_has_all⟩ := ok_has_all (P := P) (w := w) (base := base) T
  obtain ⟨fd_with_more, b_with_more, G_with_more⟩ := ok_with_more (P := P) (w := w) (base := base) T
  refine ⟨fd, b, F.ok sc_worked_out (fun vs H Q E h => by
    obtain ⟨a, l, b', s', n, rfl, _⟩ := h
    rfl) (fun cdv Ar outer s H vs Q E hr h => ?_)⟩
  refine ⟨_, (pss_cons (ps_setLc (i := 3) (own := [("place", 7), ("column", 8)]) rfl sc_worked_out.nd rfl rfl (sw_true rfl rfl rfl (by decide +kernel)) (pi_enum rfl T.n_enumerate (pa_cons (pe_call G_columns_of (hr.mono (by decide)) rfl T.g_columns_of T.k_columns_of b_columns_of .nil pass0 (pa_cons (pv 1) pa_nil)) pa_nil)) (blkOk_by (own := [("place", 7), ("column", 8)]) (N := N_worked_out) (sc := defScope s_worked_out) (by decide +kernel)) (fun _ _ _ _ _ => (pg_tupK (K := K) (n := 2) rfl (pgs_cons (pg_name (i := 7) sc_worked_out.nd rfl (by first | exact Or.inl rfl | exact Or.inr rfl)) (pgs_cons (pg_name (i := 8) sc_worked_out.nd rfl (by first | exact Or.inl rfl | exact Or.inr rfl)) pgs_nil)))) (fun _ _ _ _ _ => (pts_one (pt_val (pe_call G_has_all (hr.mono (by decide)) rfl T.g_has_all T.k_has_all b_has_all .nil pass0 (pa_cons (pv 2) (pa_cons (pe_op op_shl pe_int (pv 8)) pa_nil)))))) (fun _ _ _ _ _ => (pv 7)))
    (pss_cons (ps_set (i := 4) sc_worked_out.nd rfl (by first | exact Or.inl rfl | exact Or.inr rfl) pe_dnewT)
    (pss_cons (ps_lock (ps_for PassesOwn.never rfl (pi_itemsT (pv 0)) (pg_tup rfl (pgs_cons (pg_name (i := 5) sc_worked_out.nd rfl (by first | exact Or.inl rfl | exact Or.inr rfl)) (pgs_cons (pg_name (i := 6) sc_worked_out.nd rfl (by first | exact Or.inl rfl | exact Or.inr rfl)) pgs_nil))) (pss_one (ps_set (i := 4) sc_worked_out.nd rfl (by first | exact Or.inl rfl | exact Or.inr rfl) (pe_call G_with_more (hr.mono (by decide)) rfl T.g_with_more T.k_with_more b_with_more .nil pass0 (pa_cons (pv 4) (pa_cons (pe_callTy call_tuple_of (by rfl) T.n_tuple (by decide +kernel) (pa_cons (pe_lc (own := [("place", 7)]) rfl sc_worked_out.nd (pi_list (pv 3)) (blkOk_by (own := [("place", 7)]) (N := N_worked_out) (sc := defScope s_worked_out) (by decide +kernel)) (fun _ _ _ _ _ => (pg_name (i := 7) sc_worked_out.nd rfl (by first | exact Or.inl rfl | exact Or.inr rfl))) (fun _ _ _ _ _ => pts_nil) (fun _ _ _ _ _ => (pe_ix (ix_tupK (K := K)) (pv 5) (pv 7) (fun _ _ => rfl)))) pa_nil)) (pa_cons (pe_ix ix_tup (pv 6) pe_int (fun _ _ => rfl)) (pa_cons (pe_ix ix_tup (pv 6) pe_int (fun _ _ => rfl)) pa_nil)))))))))
    (pss_one (ps_ret (pv 4)))))), ?_⟩
  obtain ⟨a, l, b', s', n, rfl, ⟨kvs, ha, pa⟩, ok, hl, h4, hb, hs, hc, k⟩ := h
  have h5 : n < 5 := by omega
  have lenk := pr_len pa
  have colsz := cols_len n b'
  -- places
  refine ⟨_, rfl, b', n, rfl, h4, hb, fun H1 pc e1 hpc hpc1 => ⟨pc, _, rfl, SqL.of hpc1, fun D hD => ?_⟩⟩
  refine lc_it walk_enum (fun i H' => Same H1 H' ∧ H' D = some (.lst (((List.range i).filter (placeB n b' s')).map fun (c : Nat) => V.int (c : Int)))) ⟨Same.new hD, upd_same⟩ (fun i H' _ q => SqL.of (q.1 _ _ hpc1)) ?_ ?_
  · rintro i x H2 H3 hi ⟨e2, hD2⟩ ⟨T', y1, y2, rfl, hT, rfl, ey1, ey2⟩
    cases ey1
    rw [List.length_map] at hi
    replace ey2 : ((columnsOf n b').map fun (c : Nat) => V.int (c : Int))[i]? = some y2 := ey2
    rw [List.getElem?_map, List.getElem?_eq_getElem hi] at ey2
    cases ey2
    have hm := List.getElem_mem hi
    have clt : (columnsOf n b')[i] < n := cols_lt hm
    refine ⟨T', _, rfl, SqT.of upd_same, rfl, _, _, rfl, _, _, rfl, rfl, rfl, ?_⟩
    have pl : 2 ^ (columnsOf n b')[i] < 2 ^ n := Nat.pow_lt_pow_right (by decide) clt
    refine ⟨_, rfl, _, rfl, _, _, rfl, rfl, ⟨by omega, by omega, by decide⟩, ?_⟩
    refine ⟨s', 2 ^ (columnsOf n b')[i], n, ?_, h4, hs, pl, _, rfl, ?_⟩
    · show [V.int (s' : Int), V.int (1 * 2 ^ (((columnsOf n b')[i] : Nat) : Int).toNat)] = _
      rw [Int.one_mul, Int.toNat_natCast, Int.natCast_pow]
      rfl
    have eb : canFrom n s' (2 ^ (columnsOf n b')[i]) = placeB n b' s' i := by
      unfold placeB
      rw [List.getD_eq_getElem?_getD, List.getElem?_eq_getElem hi]
      rfl
    rw [eb]
    have e3 : Same H1 (upd H2 T' (.tup [V.int ((i : Nat) : Int), V.int (((columnsOf n b')[i] : Nat) : Int)])) := e2.trans (Same.new hT)
    have hD3 := Same.new (o := .tup [V.int ((i : Nat) : Int), V.int (((columnsOf n b')[i] : Nat) : Int)]) hT _ _ hD2
    by_cases c : placeB n b' s' i = true
    · refine iteT' c ?_
      refine ⟨_, rfl, _, hD3, ?_, Same.mut e3 hD, ?_⟩
      · refine sz_lt ?_
        rw [List.length_map]
        have := List.length_filter_le (placeB n b' s') (List.range i)
        rw [List.length_range] at this
        omega
      · rw [filter_snoc, if_pos c, upd_same]
    · refine iteF' (by simpa using c) ⟨e3, ?_⟩
      rw [filter_snoc, if_neg c, List.append_nil]
      exact hD3
  · rintro H2 ⟨e2, hD2⟩
    rw [List.length_map, places_fin n h5 b' hb s' hs hc] at hD2
    have e02 := e1.trans e2
    have hDn : H D = none := e1.free hD
    -- found = {}
    intro p0 hp0
    have e3 : Same H2 (upd H2 p0 (.dT [])) := Same.new hp0
    have e03 := e02.trans e3
    -- for group, line in answer.items()
    refine ⟨a, .dT kvs, e03 _ _ ha, True.intro, fun od => ?_⟩
    refine ⟨_, rfl, a, od, kvs, rfl, upd_same, ?_⟩
    have na : p0 ≠ a := fun z => by
      have := e02 _ _ ha
      rw [← z, hp0] at this
      cases this
    have nD : D ≠ a := fun z => by
      rw [z, ha] at hDn
      cases hDn
    have lock : ∀ b o, b ≠ a → H b = some o → upd (upd H2 p0 (.dT [])) a (.frz od (.dT kvs)) b = some o := fun b o nb ho => by
      rw [upd_ne nb]
      exact e03 _ _ ho
    refine for_it walk_itemsT (fun i σ H' => ∃ (p : Addr) (v5 v6 : Option V), σ = [some (.ref a), some (.int (b' : Int)), some (.int (s' : Int)), some (.ref D), some (.ref p), v5, v6, none, none] ∧
        (∀ b o, b ≠ a → H b = some o → H' b = some o) ∧ H' a = some (.frz od (.dT kvs)) ∧ H p = none ∧ AnsAt H' p (rollL n b' s' (l.take i)) ∧
        H' D = some (.lst (((columnsOf n s').map fun i => (columnsOf n b').findIdx fun c => c == i).map fun (c : Nat) => V.int (c : Int))))
      ⟨p0, none, none, rfl, lock, upd_same, e02.free hp0, ⟨[], by rw [upd_ne na]; exact upd_same, .nil⟩, by rw [upd_ne nD]; exact e3 _ _ hD2⟩
      (fun i σ H' _ ⟨_, _, _, _, _, q, _⟩ => q) ?_ ?_
    · rintro i x σ H4 H5 hi ⟨p, v5, v6, rfl, e4, ha4, hp, an, hD4⟩ ⟨T', q, kk, v, hkv, rfl, hT, hq, rfl⟩
      obtain ⟨x, hx, hk1, t, hk2, hk3⟩ := pr_at' pa hkv
      have hk1' : kk = kI x.key := hk1
      have hk2' : v = .ref t := hk2
      subst hk1' hk2'
      have nt : t ≠ a := ne_of hk3 ha (fun z => nomatch z)
      have e5 : ∀ b o, b ≠ a → H b = some o → upd H4 T' (.tup [.ref q, .ref t]) b = some o := fun b o nb ho => Same.new hT _ _ (e4 b o nb ho)
      have xm := List.mem_of_getElem? hx
      refine ⟨T', _, rfl, SqT.of upd_same, rfl, _, _, rfl, _, _, rfl, rfl, ?_⟩
      refine ⟨_, rfl, ?_⟩
      have hD5 := Same.new (o := .tup [V.ref q, V.ref t]) hT _ _ hD4
      have hq5 := Same.new (o := .tup [V.ref q, V.ref t]) hT _ _ hq
      rw [kI_vI] at hq5
      have ha5 := Same.new (o := .tup [V.ref q, V.ref t]) hT _ _ ha4
      have an5 : AnsAt (upd H4 T' (.tup [V.ref q, V.ref t])) p (rollL n b' s' (l.take i)) := an.mono (Same.new hT)
      generalize upd H4 T' (.tup [V.ref q, V.ref t]) = H5 at hD5 hq5 e5 ha5 an5 ⊢
      -- tuple([group[place] for place in places])
      refine ⟨_, rfl, D, rfl, ⟨_, SqL.of hD5⟩, fun D2 hD2' => ?_⟩
      refine lc_list (K := K) (a := D) (xs := ((columnsOf n s').map fun i => (columnsOf n b').findIdx fun c => c == i).map fun (c : Nat) => V.int (c : Int))
        (fun j H' => Same H5 H' ∧ H' D2 = some (.lst (((columnsOf n s').take j).map fun i => V.int ((x.key.getD ((columnsOf n b').findIdx fun c => c == i) 0 : Nat) : Int))))
        ⟨Same.new hD2', upd_same⟩ (fun j H' _ q => SqL.of (q.1 _ _ hD5)) ?_ ?_
      · rintro j y H6 hj ⟨e6, hD6⟩
        obtain ⟨c, hc', rfl⟩ : ∃ c, (columnsOf n s')[j]? = some c ∧ y = V.int (((columnsOf n b').findIdx fun z => z == c : Nat) : Int) := by
          rw [List.getElem?_map, List.getElem?_map] at hj
          cases z : (columnsOf n s')[j]? with
          | none => rw [z] at hj; cases hj
          | some c => rw [z] at hj; exact ⟨c, rfl, (Option.some.inj hj).symm⟩
        have cm := List.mem_of_getElem? hc'
        have plt := place_lt h5 hb hs hc c cm
        have kl := ok.len x xm
        have hv : (vI x.key)[(columnsOf n b').findIdx fun z => z == c]? = some (V.int ((x.key.getD ((columnsOf n b').findIdx fun z => z == c) 0 : Nat) : Int)) := by
          rw [List.getElem?_map, List.getD_eq_getElem?_getD, List.getElem?_eq_getElem (by omega)]
          rfl
        refine ⟨rfl, yes_of (iteT ?_)⟩
        refine ⟨_, rfl, _, rfl, q, vI x.key, _, _, rfl, rfl, SqT.of (e6 _ _ hq5), at_of rfl hv, _, hD6, ?_, Same.mut e6 hD2', ?_⟩
        · refine sz_lt ?_
          rw [List.length_map, List.length_take]
          have := cols_len n s'
          omega
        · rw [upd_same, List.take_add_one, hc', List.map_append]
          rfl
      · rintro H6 ⟨e6, hD6⟩
        rw [List.length_map, List.length_map, List.take_length] at hD6
        refine ⟨D2, _, rfl, .inl ⟨SqL.of hD6, fun q2 hq2 => ?_⟩⟩
        have e7 : Same H5 (upd H6 q2 (.tup ((columnsOf n s').map fun i => V.int ((x.key.getD ((columnsOf n b').findIdx fun c => c == i) 0 : Nat) : Int)))) := e6.trans (Same.new hq2)
        have hk7 : ∀ b o, b ≠ a → H b = some o → upd H6 q2 (.tup ((columnsOf n s').map fun i => V.int ((x.key.getD ((columnsOf n b').findIdx fun c => c == i) 0 : Nat) : Int))) b = some o := fun b o nb ho => e7 _ _ (e5 b o nb ho)
        have hq7 : upd H6 q2 (.tup ((columnsOf n s').map fun i => V.int ((x.key.getD ((columnsOf n b').findIdx fun c => c == i) 0 : Nat) : Int))) q2 = some (.tup (vI (projK n b' s' x.key))) := by
          rw [upd_same]
          unfold projK
          show _ = some (HO.tup (((columnsOf n s').map _).map fun (n : Nat) => V.int (n : Int)))
          rw [List.map_map]
          rfl
        generalize upd H6 q2 (.tup ((columnsOf n s').map fun i => V.int ((x.key.getD ((columnsOf n b').findIdx fun c => c == i) 0 : Nat) : Int))) = H7 at e7 hk7 hq7 ⊢
        have kx := projK_ok h5 hb hs hc (ok.len x xm) (ok.dig x xm)
        have okR := rollL_ok h5 hb hs hc (l.take i) [] (KOk.nil (Nat.le_trans (cols_len n s') h4)) fun y hy => ⟨ok.len y (List.mem_of_mem_take hy), ok.dig y (List.mem_of_mem_take hy)⟩
        refine ⟨_, rfl, _, _, _, _, rfl, rfl, SqT.of (hk7 _ _ nt hk3), at_of (j := 0) rfl rfl, ?_⟩
        refine ⟨_, rfl, _, _, _, _, rfl, rfl, SqT.of (hk7 _ _ nt hk3), at_of (j := 1) rfl rfl, ?_⟩
        refine ⟨p, q2, rollL n b' s' (l.take i), projK n b' s' x.key, (columnsOf n s').length, x.sum, x.n, rfl, an5.mono e7, hq7, okR.1, ?_, by omega, fun H8 p2 e8 hp2 an8 => ?_⟩
        · have z : (rollL n b' s' (l.take i)).length ≤ 0 + (l.take i).length := okR.2
          rw [List.length_take] at z
          omega
        · have hp2' : H p2 = none := by
            cases z : H p2 with
            | none => rfl
            | some o =>
              by_cases c : p2 = a
              · have := e7 _ _ ha5
                rw [← c, hp2] at this
                cases this
              · have := hk7 _ _ c z
                rw [hp2] at this
                cases this
          refine ⟨p2, _, _, rfl, fun b o nb ho => e8 _ _ (hk7 b o nb ho), e8 _ _ (e7 _ _ ha5), hp2', ?_, e8 _ _ (e7 _ _ hD5)⟩
          rw [take_snoc hx, rollL_snoc]
          exact an8
    · rintro σ H4 ⟨p, v5, v6, rfl, e4, ha4, hp, an, hD4⟩
      rw [lenk, List.take_length] at an
      refine ⟨ha4, _, rfl, ?_⟩
      refine k _ p (fun b o ho => ?_) hp (an.unlock ha4)
      by_cases c : b = a
      · rw [c] at ho ⊢
        rw [upd_same, ← ha, ho]
      · rw [upd_ne c]
        exact e4 b o c ho
end
end KR
end
section
set_option maxRecDepth 100000
set_option maxHeartbeats 4000000
/-! groupings: lines_told. -/
namespace KR
open PySem PySem.Spec PyProof.Rows L2
open Vamvsa (Group columnsOf canFrom lexLess)
theorem codeN_cons (x : Nat) (r : List Nat) : codeN (x :: r) = (x : Int) * 10 ^ r.length + codeN r := by
  show (x : Int) * 10 ^ (r.map fun (n : Nat) => (n : Int)).length + codeN r = _
  rw [List.length_map]
theorem codeN_bd : ∀ k : List Nat, (∀ d ∈ k, d < 10) → 0 ≤ codeN k ∧ codeN k < 10 ^ k.length
  | [], _ => ⟨Int.le_refl 0, by decide⟩
  | x :: r, h => by
    obtain ⟨a, b⟩ := codeN_bd r fun d m => h d (List.mem_cons_of_mem _ m)
    have hx := h x List.mem_cons_self
    rw [codeN_cons, List.length_cons, Int.pow_succ]
    generalize (10 : Int) ^ r.length = p at b ⊢
    have p0 : 0 ≤ p := by omega
    have h1 : (x : Int) * p ≤ 9 * p := Int.mul_le_mul_of_nonneg_right (by omega) p0
    have h2 : 0 ≤ (x : Int) * p := Int.mul_nonneg (by omega) p0
    exact ⟨by omega, by omega⟩
theorem codeN_lt : ∀ {a b : List Nat}, a.length = b.length → (∀ d ∈ a, d < 10) → (∀ d ∈ b, d < 10) → lexLess a b = true → codeN a < codeN b
  | [], b, _, _, _, h => by cases b <;> simp [lexLess] at h
  | _ :: _, [], h, _, _, _ => by simp at h
  | x :: r, y :: s, hl, ha, hb, h => by
    have hl' : r.length = s.length := by simpa using hl
    simp only [lexLess, Bool.or_eq_true, decide_eq_true_eq, Bool.and_eq_true, beq_iff_eq] at h
    rw [codeN_cons, codeN_cons, hl']
    rcases h with h | ⟨rfl, h⟩
    · obtain ⟨a1, a2⟩ := codeN_bd r fun d m => ha d (List.mem_cons_of_mem _ m)
      obtain ⟨b1, b2⟩ := codeN_bd s fun d m => hb d (List.mem_cons_of_mem _ m)
      rw [hl'] at a2
      generalize (10 : Int) ^ s.length = p at a2 b2 ⊢
      have p0 : 0 ≤ p := by omega
      have h1 : ((x : Int) + 1) * p ≤ (y : Int) * p := Int.mul_le_mul_of_nonneg_right (by omega) p0
      rw [Int.add_mul, Int.one_mul] at h1
      omega
    · have := codeN_lt hl' (fun d m => ha d (List.mem_cons_of_mem _ m)) (fun d m => hb d (List.mem_cons_of_mem _ m)) h
      omega
/-- the one list in order -/
theorem sorted_one : ∀ {l m : List (List Nat)}, l.Perm m → l.Pairwise (fun a b => codeN a ≤ codeN b) → m.Pairwise (fun a b => codeN a < codeN b) → l = m
  | [], m, p, _, _ => (List.nil_perm.mp p).symm
  | a :: l, [], p, _, _ => absurd p.length_eq (by simp)
  | a :: l, b :: m, p, h1, h2 => by
    obtain ⟨a1, a2⟩ := List.pairwise_cons.mp h1
    obtain ⟨b1, b2⟩ := List.pairwise_cons.mp h2
    have e : a = b := by
      have ma : a ∈ b :: m := p.mem_iff.mp List.mem_cons_self
      have mb : b ∈ a :: l := p.mem_iff.mpr List.mem_cons_self
      rcases List.mem_cons.mp ma with z | z
      · exact z
      · rcases List.mem_cons.mp mb with z2 | z2
        · exact z2.symm
        · have := b1 a z
          have := a1 b z2
          omega
    subst e
    rw [sorted_one (List.perm_cons a |>.mp p) a2 b2]
def lineV (x : Group) : List V := vI x.key ++ [V.int x.sum, V.int (x.n : Int)]
def linesV (l : List Group) : List V := V.int (l.length : Int) :: l.flatMap lineV
theorem linesV_eq (l : List Group) : linesV l = (Vamvsc.lines l).map V.int := by
  unfold linesV Vamvsc.lines
  rw [List.map_cons, List.map_flatMap]
  congr 2
  funext x
  unfold lineV Vamvsa.groupRow Vamvsa.nats vI
  rw [List.map_append, List.map_map]
  rfl
theorem flat_snoc {α β : Type} (f : α → List β) {l : List α} {i : Nat} {x : α} (h : l[i]? = some x) : (l.take (i + 1)).flatMap f = (l.take i).flatMap f ++ f x := by
  rw [take_snoc h, List.flatMap_append]
  simp
theorem lineV_len {wd : Nat} {l : List Group} (h : ∀ x ∈ l, x.key.length = wd) (hw : wd ≤ 4) : (l.flatMap lineV).length ≤ 6 * l.length := by
  induction l with
  | nil => exact Nat.zero_le _
  | cons x r ih =>
    have := ih fun y hy => h y (List.mem_cons_of_mem _ hy)
    have hx := h x List.mem_cons_self
    rw [List.flatMap_cons, List.length_append, List.length_cons]
    have e : (lineV x).length = x.key.length + 2 := by
      unfold lineV
      rw [List.length_append, List.length_map]
      rfl
    omega
def sp_lines_told : Sp := fun vs H Q _ => ∃ (a : Addr) (l m : List Group) (wd : Nat), vs = [.ref a] ∧ AnsAt H a l ∧ KOk wd l ∧ l.Perm m ∧ SL wd m ∧ l.length < 64 ∧
  ∀ H' p, Same H H' → H p = none → H' p = some (.lst (linesV m)) → Q (.ref p) H'
theorem nodup_unit {l : List Group} (h : KOk 0 l) : l.length < 2 := by
  match l, h with
  | [], _ => simp
  | [_], _ => simp
  | x :: y :: r, h =>
    have e1 := List.length_eq_zero_iff.mp (h.len x (by simp))
    have e2 := List.length_eq_zero_iff.mp (h.len y (by simp))
    have nd : (x.key :: y.key :: r.map (·.key)).Nodup := h.nd
    rw [e1, e2] at nd
    simp at nd
section
variable {P : Program} {w : World} {K : PySem.W.Frag} {mg : Str → Option Value} {base : Heap} {A : Ads}
theorem ok_lines_told (T : Txt K mg A) : Ok P w K mg base CX0 1 A.f_lines_told P_lines_told (sp_lines_told) := by
  obtain ⟨fd, F, b⟩ := T.F_lines_told
  refine ⟨fd, b, F.ok sc_lines_told (fun vs H Q E h => by
    obtain ⟨a, l, m, wd, rfl, _⟩ := h
    rfl) (fun cdv Ar outer s H vs Q E hr h => ?_)⟩
  refine ⟨_, (pss_cons (ps_set (i := 1) sc_lines_told.nd rfl (by first | exact Or.inl rfl | exact Or.inr rfl) (pe_lst (pa_cons (pe_callB call_len_dT (by rfl) T.n_len (by decide +kernel) (pa_cons (pv 0) pa_nil)) pa_nil)))
    (pss_cons (ps_for PassesOwn.never rfl (pi_list (pe_callB (call_sortedDT rfl) (by rfl) T.n_sorted (by decide +kernel) (pa_cons (pv 0) pa_nil))) (pg_name (i := 2) sc_lines_told.nd rfl (by first | exact Or.inl rfl | exact Or.inr rfl)) (pss_one (ps_expr (pe_bm PySem.F.plainAttrs_list PySem.F.slot_list_extend PySem.F.type_list_extend mt_extend (pv 1) (pa_cons (pe_op op_cat (pe_callTy call_list_of (by rfl) T.n_list (by decide +kernel) (pa_cons (pv 2) pa_nil)) (pe_callTy call_list_of (by rfl) T.n_list (by decide +kernel) (pa_cons (pe_dget (hu_of hr) (pv 0) (pv 2) (fun _ _ => rfl)) pa_nil))) pa_nil)))))
    (pss_one (ps_ret (pv 1))))), ?_⟩
  obtain ⟨a, l, m, wd, rfl, ⟨kvs, ha, pa⟩, ok, pm, sl, hl, k⟩ := h
  have lenk := pr_len pa
  have lenm := pm.length_eq
  have w4 := ok.w4
  -- found = [len(answer)]
  refine ⟨_, rfl, a, kvs, rfl, ha, (by show 1 ≤ sizeLine; decide), fun pf hpf => ?_⟩
  have e1 : Same H (upd H pf (.lst [V.int ((kvs.length : Nat) : Int)])) := Same.new hpf
  -- for group in sorted(answer)
  refine ⟨_, rfl, a, kvs, l.map (·.key), wd, rfl, e1 _ _ ha, grp_keys pa, by rw [List.length_map]; exact hl, fun kk hk => ?_, fun h0 => ?_, fun ys q hys hyt hyp hq => ?_⟩
  · obtain ⟨x, hx, rfl⟩ := List.mem_map.mp hk
    exact ⟨ok.len x hx, ok.dig x hx⟩
  · subst h0
    rw [List.length_map]
    exact nodup_unit ok
  have eys : ys.map (·.2) = m.map (·.key) := by
    have p2 : (ys.map (·.2)).Perm (m.map (·.key)) := hys.trans (pm.map _)
    by_cases h1 : 1 ≤ wd
    · refine sorted_one p2 (List.pairwise_map.mpr (hyp h1)) (List.pairwise_map.mpr ?_)
      refine sl.srt.imp_of_mem fun {x y} hx hy h => ?_
      exact codeN_lt ((sl.len x hx).trans (sl.len y hy).symm) (ok.dig x (pm.mem_iff.mpr hx)) (ok.dig y (pm.mem_iff.mpr hy)) h
    · have z : wd = 0 := by omega
      subst z
      have l2 := nodup_unit ok
      have ly := p2.length_eq
      rw [List.length_map, List.length_map] at ly
      match ys, m, ly, p2, lenm with
      | [], [], _, _, _ => rfl
      | [y], [x], _, p2, _ => exact List.perm_singleton.mp p2
      | _ :: _ :: _, _ :: _ :: _, _, _, lm => rw [List.length_cons, List.length_cons] at lm; omega
  have leny : ys.length = m.length := by
    have := congrArg List.length eys
    rwa [List.length_map, List.length_map] at this
  have hpf1 : (upd H pf (.lst [V.int ((kvs.length : Nat) : Int)])) pf = some (.lst [V.int ((kvs.length : Nat) : Int)]) := upd_same
  have nq : q ≠ pf := fun z => by rw [z, hpf1] at hq; cases hq
  have e2 := e1.trans (Same.new (o := .lst (ys.map fun y => V.ref y.1)) hq)
  refine ⟨q, rfl, ⟨_, SqL.of upd_same⟩, for_list (K := K) (a := q) (xs := ys.map fun y => V.ref y.1)
    (fun i σ H' => ∃ v2 : Option V, σ = [some (.ref a), some (.ref pf), v2] ∧ Same H H' ∧ H' q = some (.lst (ys.map fun y => V.ref y.1)) ∧ H' pf = some (.lst (V.int (m.length : Int) :: (m.take i).flatMap lineV)))
    ⟨none, rfl, e2, upd_same, by rw [upd_ne (Ne.symm nq), hpf1, lenk, lenm]; rfl⟩ (fun i σ H' _ ⟨_, _, _, h, _⟩ => SqL.of h) ?_ ?_⟩
  · rintro i x σ H' hi ⟨v2, rfl, e3, hq3, hp3⟩
    obtain ⟨y, hy, rfl⟩ : ∃ y, ys[i]? = some y ∧ x = V.ref y.1 := by
      rw [List.getElem?_map] at hi
      cases z : ys[i]? with
      | none => rw [z] at hi; cases hi
      | some y => rw [z] at hi; exact ⟨y, rfl, (Option.some.inj hi).symm⟩
    have ym := List.mem_of_getElem? hy
    obtain ⟨g, hg, eg⟩ : ∃ g, m[i]? = some g ∧ g.key = y.2 := by
      have z : (ys.map (·.2))[i]? = (m.map (·.key))[i]? := by rw [eys]
      rw [List.getElem?_map, List.getElem?_map, hy] at z
      cases z2 : m[i]? with
      | none => rw [z2] at z; cases z
      | some g => rw [z2] at z; exact ⟨g, rfl, (Option.some.inj z).symm⟩
    have gm := List.mem_of_getElem? hg
    have hyt0 := hyt y ym
    have yH : H y.1 = some (.tup (vI y.2)) := by
      rw [upd_ne (ne_of hyt0 upd_same (fun z => nomatch z))] at hyt0
      exact hyt0
    have fg : findL l y.2 = some g := by
      rw [← eg]
      exact findL_of ok.nd (pm.mem_iff.mpr gm)
    obtain ⟨t, ht1, ht2⟩ : ∃ t, valV kvs (kI y.2) = some (.ref t) ∧ H t = some (.tup [.int g.sum, .int (g.n : Int)]) := by
      rcases grp_find pa y.2 with ⟨h1, _⟩ | ⟨x, t, h1, h2, h3⟩
      · rw [fg] at h1
        cases h1
      · rw [fg] at h1
        cases h1
        exact ⟨t, h2, h3⟩
    -- found.extend(list(group) + list(answer[group]))
    refine ⟨_, rfl, .inl ⟨rfl, _, SqL.of hp3⟩, _, rfl, y.1, _, rfl, .inr (SqT.of (e3 _ _ yH)), fun l1 hl1 => ?_⟩
    have e4 := e3.trans (Same.new (o := .lst (vI y.2)) hl1)
    have hp4 := Same.new (o := .lst (vI y.2)) hl1 _ _ hp3
    have hq4 := Same.new (o := .lst (vI y.2)) hl1 _ _ hq3
    have hl4 : upd H' l1 (.lst (vI y.2)) l1 = some (.lst (vI y.2)) := upd_same
    generalize upd H' l1 (.lst (vI y.2)) = H4 at e4 hp4 hq4 hl4 ⊢
    have dg : DGet H4 a (.ref y.1) (some (.ref t)) := by
      have z := DGet.t (k := kI y.2) (e4 _ _ ha) (by rw [kI_vI]; exact e4 _ _ yH)
      rw [ht1] at z
      exact z
    refine ⟨_, rfl, _, rfl, a, .ref t, rfl, dg, t, _, rfl, .inr (SqT.of (e4 _ _ ht2)), fun l2 hl2 => ?_⟩
    have e5 := e4.trans (Same.new (o := .lst [V.int g.sum, V.int (g.n : Int)]) hl2)
    have hp5 := Same.new (o := .lst [V.int g.sum, V.int (g.n : Int)]) hl2 _ _ hp4
    have hq5 := Same.new (o := .lst [V.int g.sum, V.int (g.n : Int)]) hl2 _ _ hq4
    have hl5 := Same.new (o := .lst [V.int g.sum, V.int (g.n : Int)]) hl2 _ _ hl4
    have hl6 : upd H4 l2 (.lst [V.int g.sum, V.int (g.n : Int)]) l2 = some (.lst [V.int g.sum, V.int (g.n : Int)]) := upd_same
    generalize upd H4 l2 (.lst [V.int g.sum, V.int (g.n : Int)]) = H5 at e5 hp5 hq5 hl5 hl6 ⊢
    have ky : y.2.length = wd := by rw [← eg]; exact ok.len g (pm.mem_iff.mpr gm)
    refine ⟨l1, l2, _, _, rfl, rfl, hl5, hl6, sz_le (by rw [List.length_map]; show y.2.length + 2 ≤ _; omega), fun l3 hl3 => ?_⟩
    have e6 := e5.trans (Same.new (o := .lst (vI y.2 ++ [V.int g.sum, V.int (g.n : Int)])) hl3)
    have hp6 := Same.new (o := .lst (vI y.2 ++ [V.int g.sum, V.int (g.n : Int)])) hl3 _ _ hp5
    have hq6 := Same.new (o := .lst (vI y.2 ++ [V.int g.sum, V.int (g.n : Int)])) hl3 _ _ hq5
    have hsz := lineV_len (l := m.take i) (wd := wd) (fun x hx => sl.len x (List.mem_of_mem_take hx)) w4
    rw [List.length_take] at hsz
    refine ⟨pf, l3, _, _, rfl, rfl, hp6, upd_same, sz_le ?_, ?_⟩
    · rw [List.length_cons, List.length_append, List.length_map]
      show _ + 1 + (y.2.length + 2) ≤ _
      omega
    · refine ⟨_, rfl, Same.mut e6 hpf, by rw [upd_ne nq]; exact hq6, ?_⟩
      rw [upd_same, flat_snoc lineV hg]
      show _ = some (HO.lst (_ :: (_ ++ (vI g.key ++ [V.int g.sum, V.int (g.n : Int)]))))
      rw [eg]
      rfl
  · rintro σ H' ⟨v2, rfl, e3, hq3, hp3⟩
    rw [List.length_map, leny, List.take_length] at hp3
    exact ⟨_, rfl, k H' pf e3 hpf hp3⟩
end
end KR
end
section
set_option maxRecDepth 100000
set_option maxHeartbeats 4000000
/-! tokens: the errors, sign_of, run_end, remark_end, worth_of. -/
namespace KR
open PySem PySem.Spec PyProof.Rows L2
open VamvsBase (isLetter isDigit isBlank)
/-- what __init__ of an own error leaves -/
def ExMade (H H' : Hp) (a C d : Addr) (fs : List (Str × V)) : Prop :=
  (∀ b o, H b = some o → b ≠ a → H' b = some o) ∧ H' a = some (exo a C (some d)) ∧ H' d = some (exd d fs) ∧ H d = none ∧ d ≠ a
def faultF (c p : Int) : List (Str × V) := [("place", .int p), ("code", .int c)]
def refusedF (n : Int) : List (Str × V) := [("number", .int n)]
def sp_Fault_init (A : Ads) : Sp := fun vs H Q _ => ∃ (a : Addr) (c p : Int), vs = [.ref a, .int c, .int p] ∧ H a = some (exo a A.c_Fault none) ∧
  ∀ H' d, ExMade H H' a A.c_Fault d (faultF c p) → Q .non H'
def sp_Refused_init (A : Ads) : Sp := fun vs H Q _ => ∃ (a : Addr) (n : Int), vs = [.ref a, .int n] ∧ H a = some (exo a A.c_Refused none) ∧
  ∀ H' d, ExMade H H' a A.c_Refused d (refusedF n) → Q .non H'
/-- the error as it is wished for -/
def ExWish (A : Ads) (C : Addr) (fs : List (Str × V)) (H : Hp) (E : XK) : Prop := ∀ H' d, Same H H' → H' d = some (.xd fs) → E (.ref C) (some d) H'
theorem ExWish.mono {A : Ads} {C : Addr} {fs : List (Str × V)} {H H' : Hp} {E : XK} (h : ExWish A C fs H E) (e : Same H H') : ExWish A C fs H' E := fun H2 d e2 hd => h H2 d (e.trans e2) hd
/-- the reading of «raise C(..)» -/
theorem raise_of {A : Ads} {C a d : Addr} {fs : List (Str × V)} {H H' : Hp} {E : XK} (k : ExWish A C fs H E) (ha : H a = none) (m : ExMade (upd H a (exo a C none)) H' a C d fs) :
    H' a = some (exo a C (some d)) ∧ H' d = some (exd d fs) ∧ H d = none ∧ E (.ref C) (some d) (upd (del H' a) d (.xd fs)) := by
  obtain ⟨m1, m2, m3, m4, m5⟩ := m
  have hd : H d = none := by rwa [upd_ne m5] at m4
  refine ⟨m2, m3, hd, k _ d (fun b o hb => ?_) upd_same⟩
  have nd : b ≠ d := ne_of_none hb hd
  have na : b ≠ a := ne_of_none hb ha
  rw [upd_ne nd, del_ne na]
  exact m1 b o (by rw [upd_ne na]; exact hb) na
/-- a sign of a text -/
def sgV (c : UInt8) : V := .str ⟨#[sc c]⟩
def byV (c : UInt8) : V := .int (c.toNat : Int)
def sp_sign_of : Sp := fun vs H Q _ => ∃ c : UInt8, vs = [byV c] ∧ Q (sgV c) H
def strP (S : Str) (c : UInt8) : Bool := decide (sc c ∈ S.cps.toList)
def sp_run_end : Sp := fun vs H Q _ => ∃ (a : Addr) (l : List UInt8) (i : Nat) (S : Str), vs = [.ref a, .int (i : Int), .str S] ∧ H a = some (.lst (l.map sgV)) ∧ i ≤ l.length ∧ l.length ≤ 10000 ∧
  Q (.int (runN (strP S) l i : Nat)) H
def sp_remark_end : Sp := fun vs H Q _ => ∃ (a : Addr) (l : List UInt8) (i : Nat), vs = [.ref a, .int (i : Int)] ∧ H a = some (.lst (l.map byV)) ∧ i ≤ l.length ∧ l.length ≤ 10000 ∧
  Q (.int (runN (fun b : UInt8 => b != 10) l i : Nat)) H
def sp_worth_of : Sp := fun vs H Q _ => ∃ (a : Addr) (l : List UInt8), vs = [.ref a] ∧ H a = some (.lst (l.map sgV)) ∧ (∀ c ∈ l, isDigit c = true) ∧ Q (.int (worthN l : Nat)) H
theorem map_at {α : Type} {f : α → V} {l : List α} {i : Nat} {x : V} (h : (l.map f)[i]? = some x) : ∃ c, l[i]? = some c ∧ x = f c := by
  rw [List.getElem?_map] at h
  cases z : l[i]? with
  | none => rw [z] at h; cases h
  | some c => rw [z] at h; exact ⟨c, rfl, (Option.some.inj h).symm⟩
theorem map_at' {α : Type} {f : α → V} {l : List α} {i : Nat} {c : α} (h : l[i]? = some c) : (l.map f)[i]? = some (f c) := by
  rw [List.getElem?_map, h]
  rfl
section
variable {P : Program} {w : World} {K : PySem.W.Frag} {mg : Str → Option Value} {base : Heap} {A : Ads}
theorem ok_Fault_init (T : Txt K mg A) : Ok P w K mg base CX0 1 A.f_Fault_init P_Fault_init (sp_Fault_init A) := by
  obtain ⟨fd, F, b⟩ := T.F_Fault_init
  refine ⟨fd, b, F.ok sc_Fault_init (fun vs H Q E h => by
    obtain ⟨a, c, p, rfl, _⟩ := h
    rfl) (fun cdv Ar outer s H vs Q E hr h => ?_)⟩
  refine ⟨_, (pss_cons (ps_expr (pe_veinit rfl T.n_ValueError T.vinit (pa_cons (pv 0) (pa_cons pe_str pa_nil))))
    (pss_cons (ps_ost (pv 0) (pv 1))
    (pss_one (ps_ost (pv 0) (pv 2))))), ?_⟩
  obtain ⟨a, c, p, rfl, ha, k⟩ := h
  refine ⟨_, rfl, a, A.c_Fault, _, rfl, (by show 1 ≤ 1000; decide), T.oex_Fault, ha, ?_⟩
  refine ⟨_, rfl, _, rfl, a, A.c_Fault, rfl, T.oex_Fault, T.xn_Fault_code, .inl ⟨ha, fun dx hdx ne => ?_⟩⟩
  have h1 : (upd (upd H dx (exd dx [("code", .int c)])) a (exo a A.c_Fault (some dx))) a = some (exo a A.c_Fault (some dx)) := upd_same
  have h2 : (upd (upd H dx (exd dx [("code", .int c)])) a (exo a A.c_Fault (some dx))) dx = some (exd dx [("code", .int c)]) := by
    rw [upd_ne ne]
    exact upd_same
  refine ⟨_, rfl, _, rfl, a, A.c_Fault, rfl, T.oex_Fault, T.xn_Fault_place, .inr ⟨dx, _, h1, h2, (by show 1 ≤ 900; decide), ?_⟩⟩
  refine k _ dx ⟨fun b o hb nb => ?_, ?_, upd_same, hdx, ne⟩
  · have nd : b ≠ dx := ne_of_none hb hdx
    rw [upd_ne nd, upd_ne nb, upd_ne nd]
    exact hb
  · rw [upd_ne (Ne.symm ne)]
    exact h1
theorem ok_Refused_init (T : Txt K mg A) : Ok P w K mg base CX0 1 A.f_Refused_init P_Refused_init (sp_Refused_init A) := by
  obtain ⟨fd, F, b⟩ := T.F_Refused_init
  refine ⟨fd, b, F.ok sc_Refused_init (fun vs H Q E h => by
    obtain ⟨a, n, rfl, _⟩ := h
    rfl) (fun cdv Ar outer s H vs Q E hr h => ?_)⟩
  refine ⟨_, (pss_cons (ps_expr (pe_veinit rfl T.n_ValueError T.vinit (pa_cons (pv 0) (pa_cons pe_str pa_nil))))
    (pss_one (ps_ost (pv 0) (pv 1)))), ?_⟩
  obtain ⟨a, n, rfl, ha, k⟩ := h
  refine ⟨_, rfl, a, A.c_Refused, _, rfl, (by show 1 ≤ 1000; decide), T.oex_Refused, ha, ?_⟩
  refine ⟨_, rfl, _, rfl, a, A.c_Refused, rfl, T.oex_Refused, T.xn_Refused_number, .inl ⟨ha, fun dx hdx ne => ?_⟩⟩
  refine k _ dx ⟨fun b o hb nb => ?_, upd_same, ?_, hdx, ne⟩
  · rw [upd_ne nb, upd_ne (ne_of_none hb hdx)]
    exact hb
  · rw [upd_ne ne]
    exact upd_same
end
end KR
end
section
set_option maxRecDepth 100000
set_option maxHeartbeats 4000000
/-! tokens: sign_of, run_end, remark_end, worth_of. -/
namespace KR
open PySem PySem.Spec PyProof.Rows L2
open VamvsBase (isLetter isDigit isBlank)
abbrev strL : Str := "abcdefghijklmnopqrstuvwxyzABCDEFGHIJKLMNOPQRSTUVWXYZ"
abbrev strD : Str := "0123456789"
abbrev strS : Str := ",:;-"
theorem codes_L : strL.cps.toList = lettersL := by decide +kernel
theorem codes_D : strD.cps.toList = digitsL := by decide +kernel
theorem codes_S : strS.cps.toList = signsL := by decide +kernel
theorem codes_LD : (strL ++ strD).cps.toList = lettersL ++ digitsL := by decide +kernel
theorem codes_all : ((strL ++ strD) ++ strS).cps.toList = lettersL ++ digitsL ++ signsL := by decide +kernel
theorem digit_ix : ∀ n : Nat, n < 10 → Builtin.Str.occurrences strD ⟨#[48 + n]⟩ 0 strD.length 1 = [n] := by decide +kernel
section
variable {P : Program} {w : World} {K : PySem.W.Frag} {mg : Str → Option Value} {base : Heap} {A : Ads}
theorem ok_sign_of (T : Txt K mg A) : Ok P w K mg base CX0 1 A.f_sign_of P_sign_of (sp_sign_of) := by
  obtain ⟨fd, F, b⟩ := T.F_sign_of
  refine ⟨fd, b, F.ok sc_sign_of (fun vs H Q E h => by
    obtain ⟨c, rfl, _⟩ := h
    rfl) (fun cdv Ar outer s H vs Q E hr h => ?_)⟩
  refine ⟨_, (pss_cons (ps_for PassesOwn.never rfl (pi_str (pe_op op_add_str (pe_op op_add_str (pe_cS T.c_LETTERS) (pe_cS T.c_DIGITS)) (pe_cS T.c_SIGNS))) (pg_name (i := 1) sc_sign_of.nd rfl (by first | exact Or.inl rfl | exact Or.inr rfl)) (pss_one (ps_if (pt_cmpR op_eq (pe_callB call_ord (by rfl) T.n_ord (by decide +kernel) (pa_cons (pv 1) pa_nil)) (pv 0) (nomark _)) (pss_one (ps_ret (pv 1))) pss_nil)))
    (pss_one (ps_ret (pe_cS T.c_UNKNOWN)))), ?_⟩
  obtain ⟨c, rfl, k⟩ := h
  refine ⟨_, _, rfl, rfl, (by show strL.length + strD.length ≤ sizeLine; decide), _, _, rfl, rfl, (by show (strL ++ strD).length + strS.length ≤ sizeLine; decide), _, rfl, ?_⟩
  refine for_it walk_str (fun i σ H' => ∃ v, σ = [some (byV c), v] ∧ H' = H ∧ ∀ j, j < i → ∀ x, (lettersL ++ digitsL ++ signsL)[j]? = some x → x ≠ c.toNat)
    ⟨none, rfl, rfl, fun j hj => absurd hj (Nat.not_lt_zero _)⟩ (fun _ _ _ _ _ => True.intro) ?_ ?_
  · rintro i x σ H1 H2 hi ⟨v, rfl, rfl, hj⟩ ⟨rfl, n, hn, rfl⟩
    have hn' : (lettersL ++ digitsL ++ signsL)[i]? = some n := by
      rw [← codes_all, Array.getElem?_toList]
      exact hn
    refine ⟨_, rfl, _, rfl, rfl, _, rfl, rfl, _, rfl, ?_⟩
    rw [show (⟨#[n]⟩ : Str).cps.getD 0 0 = n from rfl]
    by_cases e : n = c.toNat
    · refine iteT' (decide_eq_true (show V.int (n : Int) = byV c from by rw [e]; rfl)) ?_
      refine ⟨_, rfl, ?_⟩
      have : sc c = n := by
        rw [sc_all, if_pos (by rw [← e]; exact List.mem_of_getElem? hn'), e]
      show Q (.str ⟨#[n]⟩) _
      rw [← this]
      exact k
    · refine iteF' (decide_eq_false fun z => e (Int.ofNat.inj (V.int.inj z))) ?_
      refine ⟨some (.str ⟨#[n]⟩), rfl, rfl, fun j hj' y hy => ?_⟩
      by_cases z : j = i
      · subst z
        rw [hn'] at hy
        cases hy
        exact e
      · exact hj j (by omega) y hy
  · rintro σ H1 ⟨v, rfl, rfl, hj⟩
    show Q (.str "?") H1
    have : sc c = 63 := by
      rw [sc_all, if_neg]
      intro m
      obtain ⟨j, hj1, hj2⟩ := List.getElem_of_mem m
      have hl : j < ((strL ++ strD) ++ strS).cps.size := by
        rw [← Array.length_toList, codes_all]
        exact hj1
      exact hj j hl _ (List.getElem?_eq_getElem hj1) hj2
    have k' : Q (.str ⟨#[63]⟩) H1 := by
      rw [← this]
      exact k
    exact k'
theorem ok_remark_end (T : Txt K mg A) : Ok P w K mg base CX0 1 A.f_remark_end P_remark_end (sp_remark_end) := by
  obtain ⟨fd, F, b⟩ := T.F_remark_end
  refine ⟨fd, b, F.ok sc_remark_end (fun vs H Q E h => by
    obtain ⟨a, l, i, rfl, _⟩ := h
    rfl) (fun cdv Ar outer s H vs Q E hr h => ?_)⟩
  refine ⟨_, (pss_cons (ps_while PassesOwn.never (PW.pt (pw_and (pt_cmpR op_lt (pv 1) (pe_callB call_len_seq (by rfl) T.n_len (by decide +kernel) (pa_cons (pv 0) pa_nil)) (nomark _)) (pw_and1 (pt_cmpR op_ne (pe_ix ix_list (pv 0) (pv 1) (fun _ _ => rfl)) (pe_cI T.c_LINE_END) (nomark _))))) (pss_one (ps_set (i := 1) sc_remark_end.nd rfl (by first | exact Or.inl rfl | exact Or.inr rfl) (pe_op op_add (pv 1) pe_int))))
    (pss_one (ps_ret (pv 1)))), ?_⟩
  obtain ⟨a, l, i, rfl, ha, hi, hl, k⟩ := h
  refine ⟨fun m σ H' => ∃ j : Nat, σ = [some (.ref a), some (.int (j : Int))] ∧ H' = H ∧ j ≤ l.length ∧ m = l.length - j ∧ runN (fun b : UInt8 => b != 10) l j = runN (fun b : UInt8 => b != 10) l i,
    ⟨l.length - i, i, rfl, rfl, hi, rfl, rfl⟩, ?_⟩
  rintro m σ H' ⟨j, rfl, rfl, hj, rfl, he⟩
  refine ⟨_, rfl, _, rfl, a, _, rfl, .inl (SqL.of ha), _, _, rfl, rfl, _, rfl, ?_⟩
  rw [List.length_map]
  by_cases c : j < l.length
  · refine iteT' (decide_eq_true (by omega)) ?_
    have hc : l[j]? = some l[j] := List.getElem?_eq_getElem c
    refine ⟨_, rfl, _, rfl, a, _, _, _, rfl, rfl, SqL.of ha, at_of rfl (map_at' hc), rfl, _, rfl, ?_⟩
    have eq10 : (l[j] = 10) ↔ byV l[j] = V.int 10 := ⟨fun z => by rw [z]; rfl, fun z => by
      have z2 : ((l[j].toNat : Nat) : Int) = 10 := V.int.inj z
      have z3 : l[j].toNat = 10 := by omega
      have := UInt8.ofNat_toNat (x := l[j])
      rw [z3] at this
      exact this.symm⟩
    by_cases d : l[j] = 10
    · refine iteF' (by rw [decide_eq_true (eq10.mp d)]; rfl) ?_
      refine ⟨_, rfl, ?_⟩
      rw [runN_stop hc (by rw [d]; rfl)] at he
      show Q (.int (j : Int)) _
      rw [he]
      exact k
    · refine iteT' (by rw [decide_eq_false fun z => d (eq10.mpr z)]; rfl) ⟨_, fun _ _ h => h, ?_⟩
      refine ⟨_, rfl, _, _, rfl, rfl, ?_⟩
      exact ⟨l.length - (j + 1), by omega, j + 1, rfl, rfl, c, rfl, (runN_go hc (by simpa using d)).symm.trans he⟩
  · refine iteF' (decide_eq_false (by omega)) ?_
    refine ⟨_, rfl, ?_⟩
    rw [runN_end (by omega)] at he
    show Q (.int (j : Int)) _
    rw [he]
    exact k
theorem ok_worth_of (T : Txt K mg A) : Ok P w K mg base CX0 1 A.f_worth_of P_worth_of (sp_worth_of) := by
  obtain ⟨fd, F, b⟩ := T.F_worth_of
  refine ⟨fd, b, F.ok sc_worth_of (fun vs H Q E h => by
    obtain ⟨a, l, rfl, _⟩ := h
    rfl) (fun cdv Ar outer s H vs Q E hr h => ?_)⟩
  refine ⟨_, (pss_cons (ps_set (i := 1) sc_worth_of.nd rfl (by first | exact Or.inl rfl | exact Or.inr rfl) pe_int)
    (pss_cons (ps_for PassesOwn.never rfl (pi_list (pv 0)) (pg_name (i := 2) sc_worth_of.nd rfl (by first | exact Or.inl rfl | exact Or.inr rfl)) (pss_one (ps_set (i := 1) sc_worth_of.nd rfl (by first | exact Or.inl rfl | exact Or.inr rfl) (pe_callB (call_min2 rfl) (by rfl) T.n_min (by decide +kernel) (pa_cons (pe_op op_add (pe_op op_mul pe_int (pv 1)) (pe_bm PySem.F.plainAttrs_str PySem.F.slot_str_index PySem.F.type_str_index mt_sindex (pe_cS T.c_DIGITS) (pa_cons (pv 2) pa_nil))) (pa_cons (pe_op op_add (pe_cI T.c_MOST_NUMBER) pe_int) pa_nil))))))
    (pss_one (ps_ret (pv 1))))), ?_⟩
  obtain ⟨a, l, rfl, ha, hd, k⟩ := h
  refine ⟨_, rfl, a, rfl, ⟨_, SqL.of ha⟩, for_list (K := K) (a := a) (xs := l.map sgV) (fun i σ H' => ∃ v, σ = [some (.ref a), some (.int (worthN (l.take i) : Nat)), v] ∧ H' = H)
    ⟨none, rfl, rfl⟩ (fun i σ H' _ ⟨_, _, e⟩ => by rw [e]; exact SqL.of ha) ?_ ?_⟩
  · rintro i x σ H' hi ⟨v, rfl, rfl⟩
    obtain ⟨c, hc, rfl⟩ := map_at hi
    have dc := hd c (List.mem_of_getElem? hc)
    have d2 : 48 ≤ c.toNat ∧ c.toNat ≤ 57 := of_decide_eq_true dc
    have ec : sgV c = .str ⟨#[48 + (c.toNat - 48)]⟩ := by
      unfold sgV
      rw [sc_same c (by rw [dc, Bool.or_true, Bool.true_or]), show 48 + (c.toNat - 48) = c.toNat from by omega]
    rw [ec]
    refine ⟨_, rfl, _, _, rfl, rfl, .inl ⟨by decide, by decide⟩, ?_⟩
    refine ⟨rfl, _, rfl, strD, _, _, [], rfl, rfl, digit_ix (c.toNat - 48) (by omega), ?_⟩
    refine ⟨_, _, rfl, rfl, _, _, rfl, rfl, _, _, rfl, ?_⟩
    refine ⟨some (.str ⟨#[48 + (c.toNat - 48)]⟩), ?_, rfl⟩
    have ew : worthN (l.take (i + 1)) = if 1000000001 < 10 * worthN (l.take i) + (c.toNat - 48) then 1000000001 else 10 * worthN (l.take i) + (c.toNat - 48) := by
      unfold worthN
      rw [take_snoc hc, List.foldl_append]
      rfl
    rw [ew]
    show [some (V.ref a), some (V.int (if (1000000000 : Int) + 1 < 10 * (worthN (l.take i) : Nat) + ((c.toNat - 48 : Nat) : Int) then (1000000000 : Int) + 1 else 10 * (worthN (l.take i) : Nat) + ((c.toNat - 48 : Nat) : Int))), _] = _
    congr 3
    generalize worthN (l.take i) = n
    generalize c.toNat - 48 = d
    by_cases q : 1000000001 < 10 * n + d
    · rw [if_pos q, if_pos (by omega)]
      rfl
    · rw [if_neg q, if_neg (by omega)]
      congr 1
  · rintro σ H' ⟨v, rfl, rfl⟩
    rw [List.length_map, List.take_length]
    exact ⟨_, rfl, k⟩
theorem ok_run_end (T : Txt K mg A) : Ok P w K mg base CX0 1 A.f_run_end P_run_end (sp_run_end) := by
  obtain ⟨fd, F, b⟩ := T.F_run_end
  refine ⟨fd, b, F.ok sc_run_end (fun vs H Q E h => by
    obtain ⟨a, l, i, S, rfl, _⟩ := h
    rfl) (fun cdv Ar outer s H vs Q E hr h => ?_)⟩
  refine ⟨_, (pss_cons (ps_while PassesOwn.never (PW.pt (pw_and (pt_cmpR op_lt (pv 1) (pe_callB call_len_seq (by rfl) T.n_len (by decide +kernel) (pa_cons (pv 0) pa_nil)) (nomark _)) (pw_and1 (pt_cmpR op_in_sign (pe_ix ix_list (pv 0) (pv 1) (fun _ _ => rfl)) (pv 2) rfl)))) (pss_one (ps_set (i := 1) sc_run_end.nd rfl (by first | exact Or.inl rfl | exact Or.inr rfl) (pe_op op_add (pv 1) pe_int))))
    (pss_one (ps_ret (pv 1)))), ?_⟩
  obtain ⟨a, l, i, S, rfl, ha, hi, hl, k⟩ := h
  refine ⟨fun m σ H' => ∃ j : Nat, σ = [some (.ref a), some (.int (j : Int)), some (.str S)] ∧ H' = H ∧ j ≤ l.length ∧ m = l.length - j ∧ runN (strP S) l j = runN (strP S) l i,
    ⟨l.length - i, i, rfl, rfl, hi, rfl, rfl⟩, ?_⟩
  rintro m σ H' ⟨j, rfl, rfl, hj, rfl, he⟩
  refine ⟨_, rfl, _, rfl, a, _, rfl, .inl (SqL.of ha), _, _, rfl, rfl, _, rfl, ?_⟩
  rw [List.length_map]
  by_cases c : j < l.length
  · refine iteT' (decide_eq_true (by omega)) ?_
    have hc : l[j]? = some l[j] := List.getElem?_eq_getElem c
    refine ⟨_, rfl, _, rfl, a, _, _, _, rfl, rfl, SqL.of ha, at_of rfl (map_at' hc), _, rfl, _, S, rfl, rfl, _, rfl, ?_⟩
    by_cases d : strP S l[j] = true
    · refine iteT' d ⟨_, fun _ _ h => h, ?_⟩
      refine ⟨_, rfl, _, _, rfl, rfl, ?_⟩
      exact ⟨l.length - (j + 1), by omega, j + 1, rfl, rfl, c, rfl, (runN_go hc d).symm.trans he⟩
    · refine iteF' (Bool.eq_false_iff.mpr d) ?_
      refine ⟨_, rfl, ?_⟩
      rw [runN_stop hc (Bool.eq_false_iff.mpr d)] at he
      show Q (.int (j : Int)) _
      rw [he]
      exact k
  · refine iteF' (decide_eq_false (by omega)) ?_
    refine ⟨_, rfl, ?_⟩
    rw [runN_end (by omega)] at he
    show Q (.int (j : Int)) _
    rw [he]
    exact k
end
end KR
end
section
set_option maxRecDepth 100000
set_option maxHeartbeats 4000000
/-! tokens: number_at, token_at. -/
namespace KR
open PySem PySem.Spec PyProof.Rows L2
open VamvsBase (isLetter isDigit isBlank numberOf PTok Toks RESERVED)
theorem cut_nat (xs : List V) {i j : Nat} (hi : i ≤ xs.length) (hj : j ≤ xs.length) : cutV xs (some (i : Int)) (some (j : Int)) = (xs.drop i).take (j - i) := by
  unfold cutV
  rw [HT.sIx_nat, HT.sIx_nat, Nat.min_eq_left hi, Nat.min_eq_left hj]
theorem strP_D : strP strD = isDigit := by
  funext c
  unfold strP
  rw [codes_D]
  exact sc_digit c
theorem strP_L : strP strL = isLetter := by
  funext c
  unfold strP
  rw [codes_L]
  exact sc_letter c
theorem strP_S : strP strS = VamvsBase.SIGNS.contains := by
  funext c
  unfold strP
  rw [codes_S]
  exact sc_sign c
theorem strP_LD : strP (strL ++ strD) = fun c => isLetter c || isDigit c := by
  funext c
  unfold strP
  rw [codes_LD]
  exact sc_both c
theorem tw_all {α : Type} (p : α → Bool) : ∀ l : List α, ∀ c ∈ l.takeWhile p, p c = true
  | [], _, h => (List.not_mem_nil h).elim
  | a :: r, c, h => by
    rw [List.takeWhile_cons] at h
    split at h
    · rename_i ha
      rcases List.mem_cons.mp h with e | m
      · rw [e]; exact ha
      · exact tw_all p r c m
    · exact (List.not_mem_nil h).elim
/-- a name as a text -/
def nameS (b : VamvsBase.Bytes) : Str := ⟨(b.map UInt8.toNat).toArray⟩
def sortV : VamvsBase.Tok → V
  | .name b => .str (if RESERVED.contains b = true then "word" else "name")
  | .num _ => .str "number"
  | .sign _ => .str "sign"
  | .last => .str "end"
def whatV : VamvsBase.Tok → V
  | .name b => .str (nameS b)
  | .num n => .int (n : Int)
  | .sign c => .str ⟨#[c]⟩
  | .last => .str ""
def tokV (t : PTok) : List V := [.int (t.place : Int), sortV t.tok, whatV t.tok]
def TokAt (H : Hp) (a : Addr) (t : PTok) : Prop := H a = some (.tup (tokV t))
theorem TokAt.mono {H H' : Hp} (e : Same H H') {a : Addr} {t : PTok} (h : TokAt H a t) : TokAt H' a t := e _ _ h
def FaultW (A : Ads) (f : VamvsBase.Fault) (H : Hp) (E : XK) : Prop := ExWish A A.c_Fault (faultF (f.code : Int) (f.place : Int)) H E
def sp_number_at (A : Ads) : Sp := fun vs H Q E => ∃ (a : Addr) (l : List UInt8) (i : Nat) (c : UInt8), vs = [.ref a, .int (i : Int)] ∧ H a = some (.lst (l.map sgV)) ∧ l[i]? = some c ∧ isDigit c = true ∧ l.length ≤ 10000 ∧
  (numberOf ((l.drop i).takeWhile isDigit) = none → FaultW A ⟨2, i⟩ H E) ∧
  (∀ n, numberOf ((l.drop i).takeWhile isDigit) = some n → ∀ H' p q, Same H H' → H' p = some (.tup [.ref q, .int (runN isDigit l i : Nat)]) → TokAt H' q ⟨i, .num n⟩ → Q (.ref p) H')
section
variable {P : Program} {w : World} {K : PySem.W.Frag} {mg : Str → Option Value} {base : Heap} {A : Ads}
theorem ok_number_at (T : Txt K mg A) : Ok P w K mg base (L2.CX P w) 3 A.f_number_at P_number_at (sp_number_at A) := by
  obtain ⟨fd, F, b⟩ := T.F_number_at
  obtain ⟨fd_Fault_init, b_Fault_init, G_Fault_init⟩ := ok_Fault_init (P := P) (w := w) (base := base) T
  obtain ⟨fd_run_end, b_run_end, G_run_end⟩ := ok_run_end (P := P) (w := w) (base := base) T
  obtain ⟨fd_worth_of, b_worth_of, G_worth_of⟩ := ok_worth_of (P := P) (w := w) (base := base) T
  refine ⟨fd, b, F.okX sc_number_at (fun vs H Q E h => by
    obtain ⟨a, l, i, c, rfl, _⟩ := h
    rfl) (fun cdv Ar outer s H vs Q E hr h => ?_)⟩
  refine ⟨_, (pss_cons (ps_set (i := 2) sc_number_at.nd rfl (by first | exact Or.inl rfl | exact Or.inr rfl) (pe_call G_run_end (hr.mono (by decide)) rfl T.g_run_end T.k_run_end b_run_end .nil pass0 (pa_cons (pv 0) (pa_cons (pv 1) (pa_cons (pe_cS T.c_DIGITS) pa_nil)))))
    (pss_cons (ps_set (i := 3) sc_number_at.nd rfl (by first | exact Or.inl rfl | exact Or.inr rfl) (pe_call G_worth_of (hr.mono (by decide)) rfl T.g_worth_of T.k_worth_of b_worth_of .nil pass0 (pa_cons (pe_slice sl_list (pv 0) (po_some (pv 1)) (po_some (pv 2))) pa_nil)))
    (pss_cons (ps_if (PW.pt (pw_or (pt_cmpR op_gt (pv 3) (pe_cI T.c_MOST_NUMBER) (nomark _)) (pw_or1 (PW.pt (pw_and (pt_cmpR op_eq (pe_ix ix_list (pv 0) (pv 1) (fun _ _ => rfl)) pe_str (nomark _)) (pw_and1 (pt_cmpR op_gt (pe_op op_sub (pv 2) (pv 1)) pe_int (nomark _)))))))) (pss_one (ps_raise rfl (takes_of rfl rfl rfl rfl) (pmk_oex T.oex_Fault T.i_Fault T.t_Fault G_Fault_init (hr.mono (by decide)) b_Fault_init .nil pass0 rfl T.g_Fault (pa_cons (pe_cI T.c_NO_TOKEN) (pa_cons (pv 1) pa_nil))))) pss_nil)
    (pss_one (ps_ret (pe_tup (pa_cons (pe_tup (pa_cons (pv 1) (pa_cons (pe_cS T.c_NUMBER) (pa_cons (pv 3) pa_nil)))) (pa_cons (pv 2) pa_nil)))))))), ?_⟩
  obtain ⟨a, l, i, c, rfl, ha, hc, hd, hl, kN, kS⟩ := h
  obtain ⟨lt, ec⟩ := List.getElem?_eq_some_iff.mp hc
  have hD : (l.drop i).takeWhile isDigit = c :: (l.drop (i + 1)).takeWhile isDigit := by
    rw [List.drop_eq_getElem_cons lt, ec, List.takeWhile_cons_of_pos hd]
  have hrl := runN_le (p := isDigit) (Nat.le_of_lt lt)
  have h48 : sgV c = .str ⟨#[c.toNat]⟩ := by
    unfold sgV
    rw [sc_same c (by rw [hd, Bool.or_true, Bool.true_or])]
  refine ⟨_, rfl, _, rfl, a, l, i, strD, rfl, ha, Nat.le_of_lt lt, hl, ?_⟩
  rw [strP_D]
  refine ⟨_, rfl, _, rfl, _, rfl, _, rfl, _, rfl, a, _, rfl, SqL.of ha, fun p hp => ?_⟩
  have ecut : cutV (l.map sgV) (some (i : Int)) (some ((runN isDigit l i : Nat) : Int)) = ((l.drop i).takeWhile isDigit).map sgV := by
    rw [cut_nat _ (by rw [List.length_map]; omega) (by rw [List.length_map]; exact hrl), ← List.map_drop, ← List.map_take, runN_take]
  rw [ecut]
  have e1 : Same H (upd H p (.lst (((l.drop i).takeWhile isDigit).map sgV))) := Same.new hp
  have hp1 : upd H p (.lst (((l.drop i).takeWhile isDigit).map sgV)) p = some (.lst (((l.drop i).takeWhile isDigit).map sgV)) := upd_same
  generalize upd H p (.lst (((l.drop i).takeWhile isDigit).map sgV)) = H1 at e1 hp1 ⊢
  refine ⟨p, _, rfl, hp1, tw_all isDigit _, ?_⟩
  have eq := numberOf_eq (r := (l.drop (i + 1)).takeWhile isDigit) hd
  rw [← hD] at eq
  have elen : ((l.drop i).takeWhile isDigit).length = runN isDigit l i - i := (Nat.add_sub_cancel_left i _).symm
  have r0 : i ≤ runN isDigit l i := Nat.le_add_right _ _
  have fault : numberOf ((l.drop i).takeWhile isDigit) = none → ∀ a1, H1 a1 = none → ∀ H' d, ExMade (upd H1 a1 (exo a1 A.c_Fault none)) H' a1 A.c_Fault d (faultF 2 (i : Int)) →
      H' a1 = some (exo a1 A.c_Fault (some d)) ∧ H' d = some (exd d (faultF 2 (i : Int))) ∧ H1 d = none ∧ E (.ref A.c_Fault) (some d) (upd (del H' a1) d (.xd (faultF 2 (i : Int)))) :=
    fun hn a1 ha1 H' d m => raise_of (A := A) (ExWish.mono (kN hn) e1) ha1 m
  -- if number > MOST_NUMBER or signs[at] == "0" and end - at > 1
  refine ⟨_, rfl, _, _, rfl, rfl, _, rfl, ?_⟩
  by_cases c1 : 1000000000 < worthN ((l.drop i).takeWhile isDigit)
  · refine iteT' (decide_eq_true (by omega)) ?_
    refine iteT ?_
    have hn : numberOf ((l.drop i).takeWhile isDigit) = none := by rw [eq, if_pos (.inl c1)]
    refine ⟨_, rfl, (by show 2 ≤ 1000; decide), fun a1 ha1 => ⟨a1, 2, (i : Int), rfl, upd_same, fun H' d m => ?_⟩⟩
    obtain ⟨m1, m2, m3, m4⟩ := fault hn a1 ha1 H' d m
    exact ⟨rfl, d, _, m1, m2, m3, m4⟩
  · refine iteF' (decide_eq_false (by omega)) ?_
    have e48 : (sgV c = V.str "0") ↔ c.toNat = 48 := by
      rw [h48]
      constructor
      · intro z
        have z1 : (⟨#[c.toNat]⟩ : Str) = ⟨#[48]⟩ := V.str.inj z
        have z2 : #[c.toNat] = #[48] := Str.mk.inj z1
        have z3 := congrArg Array.toList z2
        exact (List.cons.inj z3).1
      · intro z
        rw [z]
        rfl
    refine ⟨_, rfl, _, rfl, a, _, _, _, rfl, rfl, SqL.of (e1 _ _ ha), at_of rfl (map_at' hc), rfl, _, rfl, ?_⟩
    have finish : numberOf ((l.drop i).takeWhile isDigit) = some (worthN ((l.drop i).takeWhile isDigit)) → tRet (tTup (tCons (tTup (tCons (tVar 1) (tCons (tC (.str "number")) (tCons (tVar 3) tNil)))) (tCons (tVar 2) tNil)))
        { nx := fun _ H' => Q .non H', rt := Q } [some (.ref a), some (.int (i : Int)), some (.int (runN isDigit l i : Nat)), some (.int (worthN ((l.drop i).takeWhile isDigit) : Nat))] H1 := by
      intro hn
      refine ⟨_, rfl, _, rfl, (by show 3 ≤ sizeLine; decide), fun q hq => ?_⟩
      refine ⟨_, rfl, (by show 2 ≤ sizeLine; decide), fun p2 hp2 => ?_⟩
      exact kS _ hn _ p2 q ((e1.trans (Same.new hq)).trans (Same.new hp2)) upd_same (Same.new hp2 _ _ upd_same)
    by_cases c2 : c.toNat = 48
    · refine iteT' (decide_eq_true (e48.mpr c2)) ?_
      refine ⟨_, rfl, _, rfl, _, _, rfl, rfl, _, _, rfl, rfl, _, rfl, ?_⟩
      by_cases c3 : 1 < ((l.drop i).takeWhile isDigit).length
      · refine iteT' (decide_eq_true (by omega)) ?_
        have hn : numberOf ((l.drop i).takeWhile isDigit) = none := by rw [eq, if_pos (.inr ⟨c2, c3⟩)]
        refine ⟨_, rfl, (by show 2 ≤ 1000; decide), fun a1 ha1 => ⟨a1, 2, (i : Int), rfl, upd_same, fun H' d m => ?_⟩⟩
        obtain ⟨m1, m2, m3, m4⟩ := fault hn a1 ha1 H' d m
        exact ⟨rfl, d, _, m1, m2, m3, m4⟩
      · refine iteF' (decide_eq_false (by omega)) ?_
        exact finish (by
          rw [eq, if_neg]
          rintro (z | z)
          · exact c1 z
          · exact c3 z.2)
    · refine iteF' (decide_eq_false fun z => c2 (e48.mp z)) ?_
      refine iteF ?_
      exact finish (by
        rw [eq, if_neg]
        rintro (z | z)
        · exact c1 z
        · exact c2 z.1)
end
end KR
end
section
set_option maxRecDepth 100000
set_option maxHeartbeats 4000000
/-! tokens: token_at. -/
namespace KR
open PySem PySem.Spec PyProof.Rows L2
open VamvsBase (isLetter isDigit isBlank numberOf PTok Toks RESERVED)
theorem join_flat : ∀ ks : List Nat, TL.joinL [] (ks.map fun n => [n]) = ks
  | [] => rfl
  | [_] => rfl
  | x :: y :: r => by
    have ih := join_flat (y :: r)
    show x :: (([] : List Nat) ++ TL.joinL [] ((y :: r).map fun n => [n])) = _
    rw [ih]
    rfl
theorem join_names (l : List UInt8) (h : ∀ c ∈ l, sc c = c.toNat) : Txt.join "" (l.map fun c => (⟨#[sc c]⟩ : Str)) = nameS l := by
  have e : (l.map fun c => (⟨#[sc c]⟩ : Str)) = ((l.map UInt8.toNat).map fun n => [n]).map SX.S := by
    rw [List.map_map, List.map_map]
    refine List.map_congr_left fun c hc => ?_
    rw [h c hc]
    rfl
  have j := SX.join_S [] ((l.map UInt8.toNat).map fun n => [n])
  rw [join_flat, ← e] at j
  exact j
theorem nameS_inj {a b : VamvsBase.Bytes} (h : nameS a = nameS b) : a = b := by
  have h1 := congrArg Array.toList (Str.mk.inj h)
  have h2 : a.map UInt8.toNat = b.map UInt8.toNat := h1
  clear h h1
  induction a generalizing b with
  | nil =>
    cases b with
    | nil => rfl
    | cons y s => cases h2
  | cons x r ih =>
    cases b with
    | nil => cases h2
    | cons y s =>
      have e1 : x.toNat = y.toNat := (List.cons.inj h2).1
      have e2 := ih (List.cons.inj h2).2
      have e3 : x = y := by
        have a1 := UInt8.ofNat_toNat (x := x)
        have a2 := UInt8.ofNat_toNat (x := y)
        rw [e1] at a1
        exact a1.symm.trans a2
      rw [e2, e3]
theorem in_words (b : VamvsBase.Bytes) : inV (V.str (nameS b)) [V.str "columns", V.str "row", V.str "ask", V.str "times"] = RESERVED.contains b := by
  have w1 : ("columns" : Str) = nameS (VamvsBase.word "columns") := by decide +kernel
  have w2 : ("row" : Str) = nameS (VamvsBase.word "row") := by decide +kernel
  have w3 : ("ask" : Str) = nameS (VamvsBase.word "ask") := by decide +kernel
  have w4 : ("times" : Str) = nameS (VamvsBase.word "times") := by decide +kernel
  have eq : ∀ c : VamvsBase.Bytes, (nameS c == nameS b) = (b == c) := fun c => by
    by_cases h : b = c
    · subst h
      rw [beq_self_eq_true, beq_self_eq_true]
    · have h1 : (b == c) = false := beq_eq_false_iff_ne.mpr h
      have h2 : (nameS c == nameS b) = false := beq_eq_false_iff_ne.mpr fun z => h (nameS_inj z).symm
      rw [h1, h2]
  unfold inV
  show ((("columns" : Str) == nameS b) || ((("row" : Str) == nameS b) || ((("ask" : Str) == nameS b) || ((("times" : Str) == nameS b) || false)))) = _
  rw [w1, w2, w3, w4, eq, eq, eq, eq]
  show _ = ([VamvsBase.word "columns", VamvsBase.word "row", VamvsBase.word "ask", VamvsBase.word "times"]).contains b
  simp only [List.contains_cons, List.contains_nil]
def sp_token_at (A : Ads) : Sp := fun vs H Q E => ∃ (a : Addr) (l : List UInt8) (i : Nat) (c : UInt8), vs = [.ref a, .int (i : Int)] ∧ H a = some (.lst (l.map sgV)) ∧ l[i]? = some c ∧ l.length ≤ 10000 ∧
  (VamvsBase.token (l.drop i) = none → FaultW A ⟨2, i⟩ H E) ∧
  (∀ t k, VamvsBase.token (l.drop i) = some (t, k) → ∀ H' p q, Same H H' → H' p = some (.tup [.ref q, .int ((i + k : Nat) : Int)]) → TokAt H' q ⟨i, t⟩ → Q (.ref p) H')
section
variable {P : Program} {w : World} {K : PySem.W.Frag} {mg : Str → Option Value} {base : Heap} {A : Ads}
theorem ok_token_at (T : Txt K mg A) : Ok P w K mg base (L2.CX P w) 4 A.f_token_at P_token_at (sp_token_at A) := by
  obtain ⟨fd, F, b⟩ := T.F_token_at
  obtain ⟨fd_Fault_init, b_Fault_init, G_Fault_init⟩ := ok_Fault_init (P := P) (w := w) (base := base) T
  obtain ⟨fd_number_at, b_number_at, G_number_at⟩ := ok_number_at (P := P) (w := w) (base := base) T
  obtain ⟨fd_run_end, b_run_end, G_run_end⟩ := ok_run_end (P := P) (w := w) (base := base) T
  refine ⟨fd, b, F.okX sc_token_at (fun vs H Q E h => by
    obtain ⟨a, l, i, c, rfl, _⟩ := h
    rfl) (fun cdv Ar outer s H vs Q E hr h => ?_)⟩
  refine ⟨_, (pss_cons (ps_if (pt_cmpR op_in_sign (pe_ix ix_list (pv 0) (pv 1) (fun _ _ => rfl)) (pe_cS T.c_LETTERS) rfl) (pss_cons (ps_set (i := 2) sc_token_at.nd rfl (by first | exact Or.inl rfl | exact Or.inr rfl) (pe_call G_run_end (hr.mono (by decide)) rfl T.g_run_end T.k_run_end b_run_end .nil pass0 (pa_cons (pv 0) (pa_cons (pv 1) (pa_cons (pe_op op_add_str (pe_cS T.c_LETTERS) (pe_cS T.c_DIGITS)) pa_nil)))))
    (pss_cons (ps_if (pt_cmpR op_gt (pe_op op_sub (pv 2) (pv 1)) (pe_cI T.c_LONGEST_NAME) (nomark _)) (pss_one (ps_raise rfl (takes_of rfl rfl rfl rfl) (pmk_oex T.oex_Fault T.i_Fault T.t_Fault G_Fault_init (hr.mono (by decide)) b_Fault_init .nil pass0 rfl T.g_Fault (pa_cons (pe_cI T.c_NO_TOKEN) (pa_cons (pv 1) pa_nil))))) pss_nil)
    (pss_cons (ps_set (i := 3) sc_token_at.nd rfl (by first | exact Or.inl rfl | exact Or.inr rfl) (pe_join pe_str (pe_slice sl_list (pv 0) (po_some (pv 1)) (po_some (pv 2)))))
    (pss_one (ps_ret (pe_tup (pa_cons (pe_tup (pa_cons (pv 1) (pa_cons (pe_ifExp (pt_cmpR op_in_seq (pv 3) (pe_glob (v := .ref A.a_WORDS) rfl T.g_WORDS rfl) rfl) (pe_cS T.c_WORD) (pe_cS T.c_NAME)) (pa_cons (pv 3) pa_nil)))) (pa_cons (pv 2) pa_nil)))))))) pss_nil)
    (pss_cons (ps_if (pt_cmpR op_in_sign (pe_ix ix_list (pv 0) (pv 1) (fun _ _ => rfl)) (pe_cS T.c_DIGITS) rfl) (pss_one (ps_ret (pe_call G_number_at (hr.mono (by decide)) rfl T.g_number_at T.k_number_at b_number_at .nil (passes_call (takes_of rfl rfl rfl rfl) (fun _ _ _ _ h => h)) (pa_cons (pv 0) (pa_cons (pv 1) pa_nil))))) pss_nil)
    (pss_cons (ps_if (pt_cmpR op_notIn_sign (pe_ix ix_list (pv 0) (pv 1) (fun _ _ => rfl)) (pe_cS T.c_SIGNS) rfl) (pss_one (ps_raise rfl (takes_of rfl rfl rfl rfl) (pmk_oex T.oex_Fault T.i_Fault T.t_Fault G_Fault_init (hr.mono (by decide)) b_Fault_init .nil pass0 rfl T.g_Fault (pa_cons (pe_cI T.c_NO_TOKEN) (pa_cons (pv 1) pa_nil))))) pss_nil)
    (pss_one (ps_ret (pe_tup (pa_cons (pe_tup (pa_cons (pv 1) (pa_cons (pe_cS T.c_SIGN) (pa_cons (pe_ix ix_list (pv 0) (pv 1) (fun _ _ => rfl)) pa_nil)))) (pa_cons (pe_op op_add (pv 1) pe_int) pa_nil)))))))), ?_⟩
  obtain ⟨a, l, i, c, rfl, ha, hc, hl, kN, kS⟩ := h
  obtain ⟨lt, ec⟩ := List.getElem?_eq_some_iff.mp hc
  have hdr : l.drop i = c :: l.drop (i + 1) := by rw [List.drop_eq_getElem_cons lt, ec]
  have fault : ∀ {H1 : Hp}, Same H H1 → VamvsBase.token (l.drop i) = none → ∀ a1, H1 a1 = none → ∀ H' d, ExMade (upd H1 a1 (exo a1 A.c_Fault none)) H' a1 A.c_Fault d (faultF 2 (i : Int)) →
      H' a1 = some (exo a1 A.c_Fault (some d)) ∧ H' d = some (exd d (faultF 2 (i : Int))) ∧ H1 d = none ∧ E (.ref A.c_Fault) (some d) (upd (del H' a1) d (.xd (faultF 2 (i : Int)))) :=
    fun e1 hn a1 ha1 H' d m => raise_of (A := A) (ExWish.mono (kN hn) e1) ha1 m
  have tok : VamvsBase.token (l.drop i) = if isLetter c = true then (if VamvsBase.NAME < ((l.drop i).takeWhile fun c => isLetter c || isDigit c).length then none else some (.name ((l.drop i).takeWhile fun c => isLetter c || isDigit c), ((l.drop i).takeWhile fun c => isLetter c || isDigit c).length))
      else if isDigit c = true then (numberOf ((l.drop i).takeWhile isDigit)).map fun n => (.num n, ((l.drop i).takeWhile isDigit).length)
      else if VamvsBase.SIGNS.contains c = true then some (.sign c.toNat, 1) else none := by
    rw [hdr]
    rfl
  -- if signs[at] in LETTERS
  refine ⟨_, rfl, _, rfl, a, _, _, _, rfl, rfl, SqL.of ha, at_of rfl (map_at' hc), sc c, strL, rfl, rfl, _, rfl, ?_⟩
  by_cases c1 : isLetter c = true
  · refine iteT' (by rw [codes_L, sc_letter]; exact c1) ?_
    rw [if_pos c1] at tok
    have lel : l.length ≤ 10000 := hl
    -- end = run_end(signs, at, LETTERS + DIGITS)
    refine ⟨_, rfl, _, rfl, _, _, rfl, rfl, (by show strL.length + strD.length ≤ sizeLine; decide), a, l, i, strL ++ strD, rfl, ha, Nat.le_of_lt lt, hl, ?_⟩
    rw [strP_LD]
    have hrl := runN_le (p := fun c => isLetter c || isDigit c) (Nat.le_of_lt lt)
    have elen : ((l.drop i).takeWhile fun c => isLetter c || isDigit c).length = runN (fun c => isLetter c || isDigit c) l i - i := (Nat.add_sub_cancel_left i _).symm
    have r0 : i ≤ runN (fun c => isLetter c || isDigit c) l i := Nat.le_add_right _ _
    refine ⟨_, rfl, _, rfl, _, _, rfl, rfl, _, _, rfl, rfl, _, rfl, ?_⟩
    by_cases c2 : 16 < ((l.drop i).takeWhile fun c => isLetter c || isDigit c).length
    · refine iteT' (decide_eq_true (by omega)) ?_
      have hn : VamvsBase.token (l.drop i) = none := by rw [tok]; exact if_pos c2
      refine ⟨_, rfl, (by show 2 ≤ 1000; decide), fun a1 ha1 => ⟨a1, 2, (i : Int), rfl, upd_same, fun H' d m => ?_⟩⟩
      obtain ⟨m1, m2, m3, m4⟩ := fault (Same.refl H) hn a1 ha1 H' d m
      exact ⟨rfl, d, _, m1, m2, m3, m4⟩
    · refine iteF' (decide_eq_false (by omega)) ?_
      have hn : VamvsBase.token (l.drop i) = some (.name ((l.drop i).takeWhile fun c => isLetter c || isDigit c), ((l.drop i).takeWhile fun c => isLetter c || isDigit c).length) := by rw [tok]; exact if_neg c2
      -- word = "".join(signs[at:end])
      refine ⟨⟨_, rfl⟩, _, rfl, _, rfl, _, rfl, _, rfl, _, rfl, a, _, rfl, SqL.of ha, fun p hp => ?_⟩
      have ecut : cutV (l.map sgV) (some (i : Int)) (some ((runN (fun c => isLetter c || isDigit c) l i : Nat) : Int)) = (((l.drop i).takeWhile fun c => isLetter c || isDigit c).map fun c => (⟨#[sc c]⟩ : Str)).map V.str := by
        rw [cut_nat _ (by rw [List.length_map]; omega) (by rw [List.length_map]; exact hrl), ← List.map_drop, ← List.map_take, runN_take, List.map_map]
        rfl
      rw [ecut]
      have hsame : ∀ x ∈ (l.drop i).takeWhile fun c => isLetter c || isDigit c, sc x = x.toNat := fun x hx => sc_same x (by rw [tw_all (fun c => isLetter c || isDigit c) _ x hx]; rfl)
      refine ⟨_, p, _, rfl, rfl, .inl (SqL.of upd_same), ?_, ?_⟩
      · rw [List.length_map, List.map_map]
        have : (((l.drop i).takeWhile fun c => isLetter c || isDigit c).map ((fun x : Str => x.length) ∘ fun c => (⟨#[sc c]⟩ : Str))).sum = ((l.drop i).takeWhile fun c => isLetter c || isDigit c).length := by
          generalize (l.drop i).takeWhile (fun c => isLetter c || isDigit c) = m
          induction m with
          | nil => rfl
          | cons x r ih =>
            rw [List.map_cons, List.sum_cons, ih, List.length_cons]
            show 1 + _ = _
            omega
        rw [this]
        show _ + _ * 0 ≤ _
        omega
      · rw [join_names _ hsame]
        -- return ((at, WORD if word in WORDS else NAME, word), end)
        refine ⟨_, rfl, ?_⟩
        refine ⟨_, rfl, A.a_WORDS, _, rfl, .inr (T.w_WORDS _), rfl, rfl, _, rfl, ?_⟩
        have fin : ∀ z : Str, V.str z = sortV (.name ((l.drop i).takeWhile fun c => isLetter c || isDigit c)) →
            ∀ q, upd H p (.lst ((((l.drop i).takeWhile fun c => isLetter c || isDigit c).map fun c => (⟨#[sc c]⟩ : Str)).map V.str)) q = none →
            ∀ p2, upd (upd H p (.lst ((((l.drop i).takeWhile fun c => isLetter c || isDigit c).map fun c => (⟨#[sc c]⟩ : Str)).map V.str))) q (.tup [.int (i : Int), V.str z, .str (nameS ((l.drop i).takeWhile fun c => isLetter c || isDigit c))]) p2 = none →
            Q (.ref p2) (upd (upd (upd H p (.lst ((((l.drop i).takeWhile fun c => isLetter c || isDigit c).map fun c => (⟨#[sc c]⟩ : Str)).map V.str))) q (.tup [.int (i : Int), V.str z, .str (nameS ((l.drop i).takeWhile fun c => isLetter c || isDigit c))])) p2 (.tup [.ref q, .int (runN (fun c => isLetter c || isDigit c) l i : Nat)])) := by
          intro z hz q hq p2 hp2
          refine kS _ _ hn _ p2 q (((Same.new hp).trans (Same.new hq)).trans (Same.new hp2)) upd_same (Same.new hp2 _ _ ?_)
          rw [upd_same, hz]
          rfl
        show if inV (V.str (nameS ((l.drop i).takeWhile fun c => isLetter c || isDigit c))) [V.str "columns", V.str "row", V.str "ask", V.str "times"] = true then _ else _
        rw [in_words]
        by_cases c3 : RESERVED.contains ((l.drop i).takeWhile fun c => isLetter c || isDigit c) = true
        · rw [if_pos c3]
          refine ⟨_, rfl, (by show 3 ≤ sizeLine; decide), fun q hq => ?_⟩
          refine ⟨_, rfl, (by show 2 ≤ sizeLine; decide), fun p2 hp2 => ?_⟩
          exact fin "word" (congrArg V.str (if_pos c3).symm) q hq p2 hp2
        · rw [if_neg c3]
          refine ⟨_, rfl, (by show 3 ≤ sizeLine; decide), fun q hq => ?_⟩
          refine ⟨_, rfl, (by show 2 ≤ sizeLine; decide), fun p2 hp2 => ?_⟩
          exact fin "name" (congrArg V.str (if_neg c3).symm) q hq p2 hp2
  · refine iteF' (by rw [codes_L, sc_letter]; exact Bool.eq_false_iff.mpr c1) ?_
    rw [if_neg c1] at tok
    refine ⟨_, rfl, _, rfl, a, _, _, _, rfl, rfl, SqL.of ha, at_of rfl (map_at' hc), sc c, strD, rfl, rfl, _, rfl, ?_⟩
    by_cases c2 : isDigit c = true
    · refine iteT' (by rw [codes_D, sc_digit]; exact c2) ?_
      rw [if_pos c2] at tok
      refine ⟨_, rfl, _, rfl, a, l, i, c, rfl, ha, hc, c2, hl, fun hn => ?_, fun n hn H' p q e1 h1 h2 => ?_⟩
      · exact kN (by rw [tok, hn]; rfl)
      · exact kS _ _ (by rw [tok, hn]; rfl) H' p q e1 h1 h2
    · refine iteF' (by rw [codes_D, sc_digit]; exact Bool.eq_false_iff.mpr c2) ?_
      rw [if_neg c2] at tok
      refine ⟨_, rfl, _, rfl, a, _, _, _, rfl, rfl, SqL.of ha, at_of rfl (map_at' hc), sc c, strS, rfl, rfl, _, rfl, ?_⟩
      by_cases c3 : VamvsBase.SIGNS.contains c = true
      · refine iteF' (by rw [codes_S, sc_sign, c3]; rfl) ?_
        rw [if_pos c3] at tok
        refine ⟨_, rfl, _, rfl, _, rfl, a, _, _, _, rfl, rfl, SqL.of ha, at_of rfl (map_at' hc), (by show 3 ≤ sizeLine; decide), fun q hq => ?_⟩
        refine ⟨_, rfl, _, _, rfl, rfl, (by show 2 ≤ sizeLine; decide), fun p2 hp2 => ?_⟩
        refine kS _ _ tok _ p2 q ((Same.new hq).trans (Same.new hp2)) upd_same (Same.new hp2 _ _ ?_)
        rw [upd_same]
        show _ = some (HO.tup [V.int (i : Int), V.str "sign", V.str ⟨#[c.toNat]⟩])
        rw [← sc_same c (by rw [c3, Bool.or_true])]
        rfl
      · refine iteT' (by rw [codes_S, sc_sign, Bool.eq_false_iff.mpr c3]; rfl) ?_
        rw [if_neg c3] at tok
        refine ⟨_, rfl, (by show 2 ≤ 1000; decide), fun a1 ha1 => ⟨a1, 2, (i : Int), rfl, upd_same, fun H' d m => ?_⟩⟩
        obtain ⟨m1, m2, m3, m4⟩ := fault (Same.refl H) tok a1 ha1 H' d m
        exact ⟨rfl, d, _, m1, m2, m3, m4⟩
end
end KR
end
section
set_option maxRecDepth 100000
set_option maxHeartbeats 4000000
/-! tokens: tokens_of. -/
namespace KR
open PySem PySem.Spec PyProof.Rows L2
open VamvsBase (isLetter isDigit isBlank numberOf PTok Toks RESERVED)
def ToksAt (H : Hp) (p : Addr) (ts : Toks) : Prop := ∃ as : List Addr, H p = some (.lst (as.map V.ref)) ∧ Paired (TokAt H) as ts
theorem TokAt.mut {H : Hp} {p q : Addr} {xs : List V} {o : HO} {t : PTok} (h : TokAt H q t) (hp : H p = some (.lst xs)) : TokAt (upd H p o) q t := by
  have ne : q ≠ p := fun z => by
    unfold TokAt at h
    rw [z, hp] at h
    cases h
  unfold TokAt
  rw [upd_ne ne]
  exact h
def sp_tokens_of (A : Ads) : Sp := fun vs H Q E => ∃ (a : Addr) (l : List UInt8), vs = [.ref a] ∧ H a = some (.lst (l.map byV)) ∧ l.length ≤ 4096 ∧
  (∀ f, lexAt l 0 = .error f → FaultW A f H E) ∧
  (∀ ts, lexAt l 0 = .ok ts → ∀ H' p, Same H H' → H p = none → ToksAt H' p ts → Q (.ref p) H')
theorem in_blanks (c : UInt8) : inV (byV c) [V.int 32, V.int 9, V.int 10] = isBlank c := by
  have h : ∀ n : Nat, n < 256 → inV (V.int (n : Int)) [V.int 32, V.int 9, V.int 10] = isBlank (UInt8.ofNat n) := by decide +kernel
  have := h c.toNat c.toNat_lt
  rwa [UInt8.ofNat_toNat] at this
theorem is_35 (c : UInt8) : decide (byV c = V.int 35) = (c == 35) := by
  by_cases d : c = 35
  · subst d
    rfl
  · rw [show (c == 35) = false from beq_eq_false_iff_ne.mpr d]
    refine decide_eq_false fun z => d ?_
    have z2 : ((c.toNat : Nat) : Int) = 35 := V.int.inj z
    have z3 : c.toNat = 35 := by omega
    have := UInt8.ofNat_toNat (x := c)
    rw [z3] at this
    exact this.symm
section
variable {P : Program} {w : World} {K : PySem.W.Frag} {mg : Str → Option Value} {base : Heap} {A : Ads}
theorem ok_tokens_of (T : Txt K mg A) : Ok P w K mg base (L2.CX P w) 5 A.f_tokens_of P_tokens_of (sp_tokens_of A) := by
  obtain ⟨fd, F, b⟩ := T.F_tokens_of
  obtain ⟨fd_remark_end, b_remark_end, G_remark_end⟩ := ok_remark_end (P := P) (w := w) (base := base) T
  obtain ⟨fd_sign_of, b_sign_of, G_sign_of⟩ := ok_sign_of (P := P) (w := w) (base := base) T
  obtain ⟨fd_token_at, b_token_at, G_token_at⟩ := ok_token_at (P := P) (w := w) (base := base) T
  refine ⟨fd, b, F.okX sc_tokens_of (fun vs H Q E h => by
    obtain ⟨a, l, rfl, _⟩ := h
    rfl) (fun cdv Ar outer s H vs Q E hr h => ?_)⟩
  refine ⟨_, (pss_cons (ps_setLc (i := 1) (own := [("byte", 5)]) rfl sc_tokens_of.nd rfl rfl (sw_true rfl rfl rfl (by decide +kernel)) (pi_list (pv 0)) (blkOk_by (own := [("byte", 5)]) (N := N_tokens_of) (sc := defScope s_tokens_of) (by decide +kernel)) (fun _ _ _ _ _ => (pg_name (i := 5) sc_tokens_of.nd rfl (by first | exact Or.inl rfl | exact Or.inr rfl))) (fun _ _ _ _ _ => pts_nil) (fun _ _ _ _ _ => (pe_call G_sign_of (hr.mono (by decide)) rfl T.g_sign_of T.k_sign_of b_sign_of .nil pass0 (pa_cons (pv 5) pa_nil))))
    (pss_cons (ps_set (i := 2) sc_tokens_of.nd rfl (by first | exact Or.inl rfl | exact Or.inr rfl) (pe_lst pa_nil))
    (pss_cons (ps_set (i := 3) sc_tokens_of.nd rfl (by first | exact Or.inl rfl | exact Or.inr rfl) pe_int)
    (pss_cons (ps_while (passes_of rfl) (pt_cmpR op_lt (pv 3) (pe_callB call_len_seq (by rfl) T.n_len (by decide +kernel) (pa_cons (pv 0) pa_nil)) (nomark _)) (pss_one (ps_if (pt_cmpR op_in_seq (pe_ix ix_list (pv 0) (pv 3) (fun _ _ => rfl)) (pe_glob (v := .ref A.a_BLANKS) rfl T.g_BLANKS rfl) rfl) (pss_one (ps_set (i := 3) sc_tokens_of.nd rfl (by first | exact Or.inl rfl | exact Or.inr rfl) (pe_op op_add (pv 3) pe_int))) (pss_one (ps_if (pt_cmpR op_eq (pe_ix ix_list (pv 0) (pv 3) (fun _ _ => rfl)) (pe_cI T.c_REMARK) (nomark _)) (pss_one (ps_set (i := 3) sc_tokens_of.nd rfl (by first | exact Or.inl rfl | exact Or.inr rfl) (pe_call G_remark_end (hr.mono (by decide)) rfl T.g_remark_end T.k_remark_end b_remark_end .nil pass0 (pa_cons (pv 0) (pa_cons (pv 3) pa_nil))))) (pss_cons (ps_asg (pe_call G_token_at (hr.mono (by decide)) rfl T.g_token_at T.k_token_at b_token_at .nil (passes_call (takes_of rfl rfl rfl rfl) (fun _ _ _ _ h => h)) (pa_cons (pv 1) (pa_cons (pv 3) pa_nil))) (pg_tup rfl (pgs_cons (pg_name (i := 4) sc_tokens_of.nd rfl (by first | exact Or.inl rfl | exact Or.inr rfl)) (pgs_cons (pg_name (i := 3) sc_tokens_of.nd rfl (by first | exact Or.inl rfl | exact Or.inr rfl)) pgs_nil))))
    (pss_one (ps_expr (pe_bm PySem.F.plainAttrs_list PySem.F.slot_list_append PySem.F.type_list_append mt_append (pv 2) (pa_cons (pv 4) pa_nil))))))))))
    (pss_one (ps_ret (pe_op op_cat (pv 2) (pe_lst (pa_cons (pe_tup (pa_cons (pe_callB call_len_seq (by rfl) T.n_len (by decide +kernel) (pa_cons (pv 0) pa_nil)) (pa_cons (pe_cS T.c_END) (pa_cons pe_str pa_nil)))) pa_nil))))))))), ?_⟩
  obtain ⟨a, l, rfl, ha, hl, kE, kS⟩ := h
  -- signs
  refine ⟨_, rfl, a, rfl, ⟨_, SqL.of ha⟩, fun ps hps => ?_⟩
  refine lc_list (K := K) (a := a) (xs := l.map byV) (fun i H' => Same H H' ∧ H' ps = some (.lst ((l.take i).map sgV))) ⟨Same.new hps, upd_same⟩ (fun i H' _ h => SqL.of (h.1 _ _ ha)) ?_ ?_
  · rintro i x H' hi ⟨e, hp'⟩
    obtain ⟨c, hc, rfl⟩ := map_at hi
    refine ⟨rfl, ?_⟩
    show tYes _ _ _
    refine ⟨_, rfl, c, rfl, _, hp', ?_, Same.mut e hps, ?_⟩
    · refine sz_lt ?_
      rw [List.length_map, List.length_take]
      omega
    · rw [upd_same, List.take_add_one, hc, List.map_append]
      rfl
  · rintro H1 ⟨e1, hs1⟩
    rw [List.length_map, List.take_length] at hs1
    -- found = []
    refine ⟨(by show 0 ≤ sizeLine; decide), fun pf hpf => ?_⟩
    have e2 : Same H (upd H1 pf (.lst [])) := e1.trans (Same.new hpf)
    have hs2 := Same.new (o := .lst []) hpf _ _ hs1
    have hf2 : (upd H1 pf (.lst [])) pf = some (.lst []) := upd_same
    have nps : ps ≠ pf := ne_of_none hs1 hpf
    have hpfH : H pf = none := by
      cases z : H pf with
      | none => rfl
      | some o => rw [e1 _ _ z] at hpf; cases hpf
    generalize upd H1 pf (.lst []) = H2 at e2 hs2 hf2 ⊢
    -- the loop
    refine ⟨fun m σ H' => ∃ (j : Nat) (ts : Toks) (as : List Addr) (v : Option V), σ = [some (.ref a), some (.ref ps), some (.ref pf), some (.int (j : Int)), v, none] ∧ Same H H' ∧ H' ps = some (.lst (l.map sgV)) ∧
        H' pf = some (.lst (as.map V.ref)) ∧ Paired (TokAt H') as ts ∧ ts.length ≤ j ∧ j ≤ l.length ∧ m = l.length - j ∧ lexAt l 0 = (lexAt l j).map fun r => ts ++ r,
      ⟨l.length, 0, [], [], none, rfl, e2, hs2, hf2, .nil, Nat.le_refl _, Nat.zero_le _, rfl, by
        cases lexAt l 0 <;> rfl⟩, ?_⟩
    rintro m σ H3 ⟨j, ts, as, v, rfl, e3, hs3, hf3, pa, hts, hj, rfl, hlx⟩
    refine ⟨_, rfl, _, rfl, a, _, rfl, .inl (SqL.of (e3 _ _ ha)), _, _, rfl, rfl, _, rfl, ?_⟩
    rw [List.length_map]
    by_cases c : j < l.length
    · refine iteT' (decide_eq_true (by omega)) ⟨_, fun _ _ h => h, ?_⟩
      have hc : l[j]? = some l[j] := List.getElem?_eq_getElem c
      refine ⟨_, rfl, _, rfl, a, _, _, _, rfl, rfl, SqL.of (e3 _ _ ha), at_of rfl (map_at' hc), A.a_BLANKS, _, rfl, .inr (T.w_BLANKS _), rfl, rfl, _, rfl, ?_⟩
      by_cases c1 : isBlank l[j] = true
      · refine iteT' ((in_blanks _).trans c1) ?_
        refine ⟨_, rfl, _, _, rfl, rfl, ?_⟩
        exact ⟨l.length - (j + 1), by omega, j + 1, ts, as, v, rfl, e3, hs3, hf3, pa, by omega, c, rfl, by rw [hlx, lexAt_blank hc c1]⟩
      · have c1' := Bool.eq_false_iff.mpr c1
        refine iteF' ((in_blanks _).trans c1') ?_
        refine ⟨_, rfl, _, rfl, a, _, _, _, rfl, rfl, SqL.of (e3 _ _ ha), at_of rfl (map_at' hc), rfl, _, rfl, ?_⟩
        by_cases c2 : (l[j] == 35) = true
        · refine iteT' ((is_35 _).trans c2) ?_
          have step := lexAt_remark hc c1' c2
          have r1 : runN (fun b : UInt8 => b != 10) l j = runN (fun b : UInt8 => b != 10) l (j + 1) := runN_go hc (by rw [beq_iff_eq.mp c2]; rfl)
          have r2 : j + 1 ≤ runN (fun b : UInt8 => b != 10) l (j + 1) := Nat.le_add_right _ _
          have r3 : runN (fun b : UInt8 => b != 10) l (j + 1) ≤ l.length := runN_le c
          refine ⟨_, rfl, _, rfl, a, l, j, rfl, e3 _ _ ha, hj, by omega, ?_⟩
          rw [r1]
          exact ⟨l.length - runN (fun b : UInt8 => b != 10) l (j + 1), by omega, _, ts, as, v, rfl, e3, hs3, hf3, pa, by omega, r3, rfl, by rw [hlx, step]⟩
        · have c2' := Bool.eq_false_iff.mpr c2
          refine iteF' ((is_35 _).trans c2') ?_
          refine ⟨_, rfl, _, rfl, ps, l, j, l[j], rfl, hs3, hc, by omega, fun hn => ?_, fun t k hn H4 p q e4 h1 h2 => ?_⟩
          · exact ExWish.mono (kE _ (by rw [hlx, lexAt_none hc c1' c2' hn]; rfl)) e3
          · have hpos := token_pos (b := l[j]) (r := l.drop (j + 1)) (t := t) (k := k) (by rw [← List.drop_eq_getElem_cons c]; exact hn)
            rw [← List.drop_eq_getElem_cons c, List.length_drop] at hpos
            have hf4 := e4 _ _ hf3
            refine ⟨p, _, rfl, SqT.of h1, rfl, ?_⟩
            refine ⟨_, _, rfl, _, _, rfl, rfl, ?_⟩
            refine ⟨_, rfl, .inl ⟨rfl, _, SqL.of hf4⟩, _, rfl, pf, _, _, rfl, rfl, hf4, sz_lt (by rw [List.length_map, pr_len pa]; omega), ?_⟩
            refine ⟨l.length - (j + k), by omega, j + k, ts ++ [⟨j, t⟩], as ++ [q], some (.ref q), rfl, Same.mut (e3.trans e4) hpfH, ?_, ?_, ?_, ?_, by omega, rfl, ?_⟩
            · rw [upd_ne nps]
              exact e4 _ _ hs3
            · rw [upd_same, List.map_append]
              rfl
            · exact pr_app (pr_imp pa fun _ _ h => (h.mono e4).mut hf4) (.cons (h2.mut hf4) .nil)
            · rw [List.length_append]
              show _ + 1 ≤ _
              omega
            · rw [hlx, lexAt_some hc c1' c2' hn]
              cases lexAt l (j + k) with
              | error f => rfl
              | ok r =>
                show Except.ok (ts ++ ⟨j, t⟩ :: r) = Except.ok ((ts ++ [⟨j, t⟩]) ++ r)
                rw [List.append_assoc]
                rfl
    · refine iteF' (decide_eq_false (by omega)) ?_
      have ej : j = l.length := by omega
      subst ej
      rw [lexAt_end (Nat.le_refl _)] at hlx
      refine ⟨_, rfl, _, rfl, a, _, rfl, .inl (SqL.of (e3 _ _ ha)), (by show 3 ≤ sizeLine; decide), fun q hq => ?_⟩
      rw [List.length_map]
      refine ⟨(by show 1 ≤ sizeLine; decide), fun p1 hp1 => ?_⟩
      have e4 := (e3.trans (Same.new (o := .tup [V.int (l.length : Int), V.str "end", V.str ""]) hq)).trans (Same.new (o := .lst [V.ref q]) hp1)
      have e5 : Same H3 (upd (upd H3 q (.tup [V.int (l.length : Int), V.str "end", V.str ""])) p1 (.lst [V.ref q])) := (Same.new hq).trans (Same.new hp1)
      have hq4 : (upd (upd H3 q (.tup [V.int (l.length : Int), V.str "end", V.str ""])) p1 (.lst [V.ref q])) q = some (.tup [V.int (l.length : Int), V.str "end", V.str ""]) := Same.new hp1 _ _ upd_same
      refine ⟨pf, p1, _, _, rfl, rfl, e5 _ _ hf3, upd_same, sz_le (by rw [List.length_map, pr_len pa]; show _ + 1 ≤ _; omega), fun p hp => ?_⟩
      refine kS _ hlx _ p (e4.trans (Same.new hp)) ?_ ⟨as ++ [q], ?_, ?_⟩
      · cases z : H p with
        | none => rfl
        | some o => rw [e4 _ _ z] at hp; cases hp
      · rw [upd_same, List.map_append]
        rfl
      · refine pr_app (pr_imp pa fun _ _ h => (h.mono e5).mono (Same.new hp)) (.cons ?_ .nil)
        exact TokAt.mono (Same.new hp) hq4
end
end KR
end
section
set_option maxRecDepth 100000
set_option maxHeartbeats 4000000
/-! reading: how a Reader lies in the heap; inits, comes, want, take. -/
namespace KR
open PySem PySem.Spec PyProof.Rows L2
open VamvsBase (PTok Toks Tok RESERVED next here tokEq)
abbrev Bts := VamvsBase.Bytes
def nmV (b : Bts) : V := .str (nameS b)
/-- what the tokens of a text are: the last one ends them; signs are bytes -/
def tokOk : VamvsBase.Tok → Prop
  | .sign c => c < 256
  | _ => True
def LexOk (l : Toks) : Prop := (∃ p, l.getLast? = some ⟨p, .last⟩) ∧ ∀ t ∈ l, tokOk t.tok
structure RA where
  (R dR TK T dT CL RL QL : Addr)
structure Rd (A : Ads) (r : RA) (l : Toks) (cs : List Bts) (rs : List SRow) (m : Nat) (H : Hp) : Prop where
  pos : ∃ (n : Nat) (toks : Toks), H r.R = some (.ins A.c_Reader r.dR [("tokens", .ref r.TK), ("at", .int (n : Int)), ("table", .ref r.T)]) ∧ ToksAt H r.TK toks ∧ toks.drop n = l
  last : LexOk l
  tab : H r.T = some (.ins A.c_Table r.dT [("columns", .ref r.CL), ("rows", .ref r.RL), ("questions", .ref r.QL)])
  cols : H r.CL = some (.lst (cs.map nmV))
  rows : RowsAt H r.RL rs
  asks : ∃ qs : List V, H r.QL = some (.lst qs) ∧ qs.length = m
  ne1 : r.CL ≠ r.RL
  ne2 : r.CL ≠ r.QL
  ne3 : r.RL ≠ r.QL
  c4 : cs.length ≤ 4
  nd : cs.Nodup
  r16 : rs.length ≤ 16
  m8 : m ≤ 8
  rok : ∀ x ∈ rs, RowOk cs.length x
  tk : r.TK ≠ r.CL ∧ r.TK ≠ r.RL ∧ r.TK ≠ r.QL
/-- only the reader's own things change -/
def Kp (r : RA) (H H' : Hp) : Prop := ∀ b o, H b = some o → b ≠ r.R → b ≠ r.CL → b ≠ r.RL → b ≠ r.QL → H' b = some o
theorem Kp.refl (r : RA) (H : Hp) : Kp r H H := fun _ _ h _ _ _ _ => h
theorem Kp.trans {r : RA} {H H1 H2 : Hp} (h : Kp r H H1) (g : Kp r H1 H2) : Kp r H H2 := fun b o hb n1 n2 n3 n4 => g b o (h b o hb n1 n2 n3 n4) n1 n2 n3 n4
theorem Kp.of {r : RA} {H H' : Hp} (e : Same H H') : Kp r H H' := fun b o hb _ _ _ _ => e b o hb
def FaultK (A : Ads) (r : RA) (f : VamvsBase.Fault) (H : Hp) (E : XK) : Prop := ∀ H' d, Kp r H H' → H' d = some (.xd (faultF (f.code : Int) (f.place : Int))) → E (.ref A.c_Fault) (some d) H'
theorem FaultK.mono {A : Ads} {r : RA} {f : VamvsBase.Fault} {H H1 : Hp} {E : XK} (h : FaultK A r f H E) (k : Kp r H H1) : FaultK A r f H1 E := fun H' d k2 hd => h H' d (k.trans k2) hd
theorem FaultK.w {A : Ads} {r : RA} {f : VamvsBase.Fault} {H : Hp} {E : XK} (h : FaultK A r f H E) : FaultW A f H E := fun H' d e hd => h H' d (Kp.of e) hd
def Out {β : Type} (A : Ads) (r : RA) (H : Hp) (E : XK) (x : Except VamvsBase.Fault β) (ok : β → Hp → Prop) : Prop :=
  match x with
  | .error f => FaultK A r f H E
  | .ok b => ∀ H', Kp r H H' → ok b H'
theorem Out.mono {β : Type} {A : Ads} {r : RA} {H H1 : Hp} {E : XK} {x : Except VamvsBase.Fault β} {ok : β → Hp → Prop} (h : Out A r H E x ok) (k : Kp r H H1) : Out A r H1 E x ok := by
  cases x with
  | error f => exact FaultK.mono h k
  | ok b => exact fun H' k2 => h H' (k.trans k2)
theorem Out.bind {β γ : Type} {A : Ads} {r : RA} {H : Hp} {E : XK} {x : Except VamvsBase.Fault β} {g : β → Except VamvsBase.Fault γ} {ok : γ → Hp → Prop} {ok' : β → Hp → Prop} (h : Out A r H E (x.bind g) ok)
    (f : ∀ b, x = .ok b → ∀ H', Kp r H H' → Out A r H' E (g b) ok → ok' b H') : Out A r H E x ok' := by
  cases x with
  | error e => exact h
  | ok b => exact fun H' k => f b rfl H' k (Out.mono (x := g b) h k)
theorem Out.map {β γ : Type} {A : Ads} {r : RA} {H : Hp} {E : XK} {x : Except VamvsBase.Fault β} {g : β → γ} {ok : γ → Hp → Prop} {ok' : β → Hp → Prop} (h : Out A r H E (x.map g) ok)
    (f : ∀ b, x = .ok b → ∀ H', Kp r H H' → Out A r H' E (.ok (g b)) ok → ok' b H') : Out A r H E x ok' := by
  cases x with
  | error e => exact h
  | ok b => exact fun H' k => f b rfl H' k fun H2 k2 => h H2 (k.trans k2)
theorem RA.ne_ins {A : Ads} {r : RA} {l : Toks} {cs : List Bts} {rs : List SRow} {m : Nat} {H : Hp} (d : Rd A r l cs rs m H) {b : Addr} {o : HO} (hb : H b = some o) (n1 : ∀ C dx fs, o ≠ .ins C dx fs) (n2 : ∀ xs, o ≠ .lst xs) :
    b ≠ r.R ∧ b ≠ r.CL ∧ b ≠ r.RL ∧ b ≠ r.QL := by
  obtain ⟨n, toks, hR, -, -⟩ := d.pos
  obtain ⟨as, hRL, -⟩ := d.rows
  obtain ⟨qs, hQ, -⟩ := d.asks
  refine ⟨fun z => ?_, fun z => ?_, fun z => ?_, fun z => ?_⟩
  · rw [z, hR] at hb
    exact n1 _ _ _ (Option.some.inj hb).symm
  · rw [z, d.cols] at hb
    exact n2 _ (Option.some.inj hb).symm
  · rw [z, hRL] at hb
    exact n2 _ (Option.some.inj hb).symm
  · rw [z, hQ] at hb
    exact n2 _ (Option.some.inj hb).symm
theorem ToksAt.mono {H H' : Hp} (e : Same H H') {a : Addr} {ts : Toks} (h : ToksAt H a ts) : ToksAt H' a ts := by
  obtain ⟨as, h1, h2⟩ := h
  exact ⟨as, e _ _ h1, pr_imp h2 fun _ _ => TokAt.mono e⟩
section
variable {A : Ads} {r : RA} {l : Toks} {cs : List Bts} {rs : List SRow} {m : Nat} {H H' : Hp}
theorem Rd.mono (d : Rd A r l cs rs m H) (e : Same H H') : Rd A r l cs rs m H' := by
  obtain ⟨⟨n, toks, h1, h2, h3⟩, la, tb, co, ro, ⟨qs, q1, q2⟩, a1, a2, a3, a4, a5, a6, a7, a8, a9⟩ := d
  exact ⟨⟨n, toks, e _ _ h1, h2.mono e, h3⟩, la, e _ _ tb, e _ _ co, ro.mono e, ⟨qs, e _ _ q1, q2⟩, a1, a2, a3, a4, a5, a6, a7, a8, a9⟩
theorem Rd.head (d : Rd A r l cs rs m H) : ∃ t l', l = t :: l' := by
  obtain ⟨p, h⟩ := d.last.1
  cases l with
  | nil => cases h
  | cons t l' => exact ⟨t, l', rfl⟩
theorem Rd.more {t : PTok} (d : Rd A r (t :: l) cs rs m H) (h : t.tok ≠ .last) : LexOk l := by
  refine ⟨?_, fun u hu => d.last.2 u (List.mem_cons_of_mem _ hu)⟩
  obtain ⟨p, e⟩ := d.last.1
  cases l with
  | nil =>
    have : t = ⟨p, .last⟩ := Option.some.inj e
    exact absurd (by rw [this]) h
  | cons u s =>
    rw [List.getLast?_cons_cons] at e
    exact ⟨p, e⟩
theorem Rd.tok {t : PTok} (d : Rd A r (t :: l) cs rs m H) : ∃ (n : Nat) (as : List Addr) (q : Addr), H r.R = some (.ins A.c_Reader r.dR [("tokens", .ref r.TK), ("at", .int (n : Int)), ("table", .ref r.T)]) ∧
    H r.TK = some (.lst (as.map V.ref)) ∧ (as.map V.ref)[n]? = some (.ref q) ∧ H q = some (.tup (tokV t)) := by
  obtain ⟨n, toks, h1, ⟨as, h2, pa⟩, h3⟩ := d.pos
  have ht : toks[n]? = some t := by
    have := congrArg (fun x : Toks => x[0]?) h3
    simpa using this
  obtain ⟨q, hq, hq2⟩ := pr_at pa ht
  exact ⟨n, as, q, h1, h2, by rw [List.getElem?_map, hq]; rfl, hq2⟩
theorem Rd.taken {t : PTok} (d : Rd A r (t :: l) cs rs m H) (h : t.tok ≠ .last) : ∃ (n : Nat) (as : List Addr) (q : Addr), H r.R = some (.ins A.c_Reader r.dR [("tokens", .ref r.TK), ("at", .int (n : Int)), ("table", .ref r.T)]) ∧
    H r.TK = some (.lst (as.map V.ref)) ∧ (as.map V.ref)[n]? = some (.ref q) ∧ H q = some (.tup (tokV t)) ∧
    Rd A r l cs rs m (upd H r.R (.ins A.c_Reader r.dR [("tokens", .ref r.TK), ("at", .int ((n : Int) + 1)), ("table", .ref r.T)])) := by
  obtain ⟨n, toks, h1, ⟨as, h2, pa⟩, h3⟩ := d.pos
  have ht : toks[n]? = some t := by
    have := congrArg (fun x : Toks => x[0]?) h3
    simpa using this
  obtain ⟨q, hq, hq2⟩ := pr_at pa ht
  refine ⟨n, as, q, h1, h2, by rw [List.getElem?_map, hq]; rfl, hq2, ?_⟩
  have mv : ∀ b o, H b = some o → (∀ C dx fs, o ≠ .ins C dx fs) → upd H r.R (.ins A.c_Reader r.dR [("tokens", .ref r.TK), ("at", .int ((n : Int) + 1)), ("table", .ref r.T)]) b = some o := fun b o hb hn => by
    rw [upd_ne fun z => by rw [z, h1] at hb; exact hn _ _ _ (Option.some.inj hb).symm]
    exact hb
  obtain ⟨as2, hRL, pr⟩ := d.rows
  obtain ⟨qs, hQ, hQ2⟩ := d.asks
  refine ⟨⟨n + 1, toks, upd_same, ⟨as, mv _ _ h2 fun _ _ _ z => (nomatch z), pr_imp pa fun _ _ z => mv _ _ z fun _ _ _ z => (nomatch z)⟩, ?_⟩, d.more h, ?_, mv _ _ d.cols fun _ _ _ z => (nomatch z),
    ⟨as2, mv _ _ hRL fun _ _ _ z => (nomatch z), pr_imp pr fun _ _ ⟨u, u1, u2⟩ => ⟨u, mv _ _ u1 fun _ _ _ z => (nomatch z), mv _ _ u2 fun _ _ _ z => (nomatch z)⟩⟩, ⟨qs, mv _ _ hQ fun _ _ _ z => (nomatch z), hQ2⟩, d.ne1, d.ne2, d.ne3, d.c4, d.nd, d.r16, d.m8, d.rok, d.tk⟩
  · rw [← List.drop_drop, h3]
    rfl
  · rw [upd_ne]
    · exact d.tab
    · intro z
      have t2 := d.tab
      rw [z, h1] at t2
      have t3 := Option.some.inj t2
      injection t3 with e1 e2 e3
      injection e3 with e4 e5
      injection e4 with e6 e7
      exact absurd e6 (by decide)
end
end KR
end
section
set_option maxRecDepth 100000
set_option maxHeartbeats 4000000
/-! reading: inits, comes, want, take. -/
namespace KR
open PySem PySem.Spec PyProof.Rows L2
open VamvsBase (PTok Toks RESERVED next here tokEq)
abbrev BTok := VamvsBase.Tok
def sp_Table_init (A : Ads) : Sp := fun vs H Q _ => ∃ (a dx : Addr), vs = [.ref a] ∧ H a = some (.ins A.c_Table dx []) ∧
  ∀ H' c r q, (∀ b o, H b = some o → b ≠ a → H' b = some o) → H' a = some (.ins A.c_Table dx [("columns", .ref c), ("rows", .ref r), ("questions", .ref q)]) → H' c = some (.lst []) → H' r = some (.lst []) → H' q = some (.lst []) →
    c ≠ r → c ≠ q → r ≠ q → H c = none → H r = none → H q = none → Q .non H'
def sp_Reader_init (A : Ads) : Sp := fun vs H Q _ => ∃ (a dx tk : Addr) (ts : Toks), vs = [.ref a, .ref tk] ∧ H a = some (.ins A.c_Reader dx []) ∧ ToksAt H tk ts ∧ LexOk ts ∧
  ∀ H' r, r.R = a → Rd A r ts [] [] 0 H' → (∀ b o, H b = some o → b ≠ a → H' b = some o) → H r.T = none → H r.CL = none → H r.RL = none → H r.QL = none → Q .non H'
/-- a token that is compared with what comes next -/
inductive Plain : BTok → Prop
  | word {b : Bts} : RESERVED.contains b = true → Plain (.name b)
  | sign {c : Nat} : c < 256 → Plain (.sign c)
  | last : Plain .last
def dataV : BTok → PyData
  | .name b => .str (nameS b)
  | .num n => .int (n : Int)
  | .sign c => .str ⟨#[c]⟩
  | .last => .str ""
def dataS : BTok → Str
  | .name b => if RESERVED.contains b = true then "word" else "name"
  | .num _ => "number"
  | .sign _ => "sign"
  | .last => "end"
def datum (t : BTok) : PyData := .tuple [.str (dataS t), dataV t]
theorem beq_false {x y : Str} (h : x ≠ y) : (x == y) = false := beq_eq_false_iff_ne.mpr h
theorem ne_wn : ("word" : Str) ≠ "name" := by decide
theorem datum_eq {x t : BTok} (h : Plain t) : PyData.eqv (datum x) (datum t) = tokEq x t := by
  have go : PyData.eqv (datum x) (datum t) = ((dataS x == dataS t) && (PyData.eqv (dataV x) (dataV t) && true)) := rfl
  rw [go, Bool.and_true]
  cases h with
  | @word b hb =>
    have e : dataS (.name b) = "word" := if_pos hb
    rw [e]
    cases x with
    | name c =>
      show ((if RESERVED.contains c = true then ("word" : Str) else "name") == "word" && (nameS c == nameS b)) = (c == b)
      by_cases d : c = b
      · subst d
        rw [if_pos hb, beq_self_eq_true, beq_self_eq_true, beq_self_eq_true]
        rfl
      · rw [show (c == b) = false from beq_eq_false_iff_ne.mpr d, beq_false (x := nameS c) fun z => d (nameS_inj z), Bool.and_false]
    | num n => rfl
    | sign c => rfl
    | last => rfl
  | @sign c hc =>
    cases x with
    | name b =>
      show ((if RESERVED.contains b = true then ("word" : Str) else "name") == "sign" && _) = false
      split <;> rfl
    | num n => rfl
    | sign d =>
      show (true && ((⟨#[d]⟩ : Str) == ⟨#[c]⟩)) = (d == c)
      rw [Bool.true_and]
      by_cases e : d = c
      · subst e
        rw [beq_self_eq_true, beq_self_eq_true]
      · rw [show (d == c) = false from beq_eq_false_iff_ne.mpr e]
        refine beq_false fun z => e ?_
        have z2 := congrArg Array.toList (Str.mk.inj z)
        exact (List.cons.inj z2).1
    | last => rfl
  | last =>
    cases x with
    | name b =>
      show ((if RESERVED.contains b = true then ("word" : Str) else "name") == "end" && _) = false
      split <;> rfl
    | num n => rfl
    | sign d => rfl
    | last => rfl
theorem dp_tok {K : PySem.W.Frag} {H : Hp} {a : Addr} {t : BTok} (h : H a = some (.tup [sortV t, whatV t])) : Dp K H (.ref a) (datum t) := by
  refine .tup (SqT.of h) (.cons ?_ (.cons ?_ .nil))
  · cases t with
    | _ => exact .str _
  · cases t with
    | num n => exact .int _
    | _ => exact .str _
theorem ok_name (b : Bts) : PyData.strOk (nameS b) = true := by
  unfold PyData.strOk nameS
  rw [Array.all_eq_true]
  intro i hi
  have e : (b.map UInt8.toNat).toArray[i] = (b[i]'(by simpa using hi)).toNat := by simp
  show decide ((b.map UInt8.toNat).toArray[i] < 0x110000) = true
  rw [e]
  have := (b[i]'(by simpa using hi)).toNat_lt
  exact decide_eq_true (by omega)
theorem ok_sort (t : BTok) : PyData.strOk (dataS t) = true := by
  cases t with
  | name b =>
    show PyData.strOk (if RESERVED.contains b = true then "word" else "name") = true
    split <;> decide +kernel
  | num n => exact (by decide +kernel : PyData.strOk "number" = true)
  | sign c => exact (by decide +kernel : PyData.strOk "sign" = true)
  | last => exact (by decide +kernel : PyData.strOk "end" = true)
theorem shaped_datum {t : BTok} (h : tokOk t) : SeqAt.shaped (datum t) = true := by
  have hs := ok_sort t
  have hv : PyData.canLay0 (dataV t) = true := by
    cases t with
    | name b => exact ok_name b
    | num n => rfl
    | sign c =>
      show PyData.strOk ⟨#[c]⟩ = true
      have h2 : c < 256 := h
      simp [PyData.strOk]
      omega
    | last => exact (by decide +kernel : PyData.strOk "" = true)
  have hd : PyData.depth (dataV t) = 0 := by cases t with | _ => rfl
  have h1 : PyData.canLay0 (datum t) = (PyData.strOk (dataS t) && (PyData.canLay0 (dataV t) && true)) := by
    unfold datum
    simp only [PyData.canLay0, PyData.canLayAll0]
  have h2 : PyData.depth (datum t) = max 0 (max (PyData.depth (dataV t)) 0) + 1 := by
    unfold datum
    simp only [PyData.depth, PyData.depthAll]
  unfold SeqAt.shaped
  rw [h1, h2, hs, hv, hd]
  rfl
theorem Plain.ok {t : BTok} (h : Plain t) : tokOk t := by
  cases h with
  | word _ => exact True.intro
  | sign h => exact h
  | last => exact True.intro
def sp_comes (A : Ads) : Sp := fun vs H Q _ => ∃ (r : RA) (l : Toks) (cs : List Bts) (rs : List SRow) (m : Nat) (t : BTok), vs = [.ref r.R, sortV t, whatV t] ∧ Plain t ∧ Rd A r l cs rs m H ∧ ∀ H', Same H H' → Q (.bl (next t l)) H'
def sp_rwant (A : Ads) : Sp := fun vs H Q E => ∃ (r : RA) (l : Toks) (cs : List Bts) (rs : List SRow) (m : Nat) (b : Bool) (c : Nat), vs = [.ref r.R, .bl b, .int (c : Int)] ∧ Rd A r l cs rs m H ∧ (b = true → Q .non H) ∧ (b = false → FaultK A r ⟨c, here l⟩ H E)
def sp_rtake (A : Ads) : Sp := fun vs H Q _ => ∃ (r : RA) (t : PTok) (l : Toks) (cs : List Bts) (rs : List SRow) (m : Nat), vs = [.ref r.R] ∧ Rd A r (t :: l) cs rs m H ∧ t.tok ≠ .last ∧ ∀ H', Kp r H H' → Rd A r l cs rs m H' → Q (whatV t.tok) H'
section
variable {P : Program} {w : World} {K : PySem.W.Frag} {mg : Str → Option Value} {base : Heap} {A : Ads}
theorem ok_Table_init (T : Txt K mg A) : Ok P w K mg base CX0 1 A.f_Table_init P_Table_init (sp_Table_init A) := by
  obtain ⟨fd, F, b⟩ := T.F_Table_init
  refine ⟨fd, b, F.ok sc_Table_init (fun vs H Q E h => by
    obtain ⟨a, dx, rfl, _⟩ := h
    rfl) (fun cdv Ar outer s H vs Q E hr h => ?_)⟩
  refine ⟨_, (pss_cons (ps_fld (pv 0) (pe_lst pa_nil) rfl)
    (pss_cons (ps_fld (pv 0) (pe_lst pa_nil) rfl)
    (pss_one (ps_fld (pv 0) (pe_lst pa_nil) rfl)))), ?_⟩
  obtain ⟨a, dx, rfl, ha, k⟩ := h
  refine ⟨(by show 0 ≤ sizeLine; decide), fun c hc => ?_⟩
  have n1 : a ≠ c := ne_of_none ha hc
  refine ⟨_, rfl, a, _, _, _, rfl, (by rw [upd_ne n1]; exact ha), T.cl_Table, T.na_Table_columns, (by show 0 < 1000; decide), ?_⟩
  obtain ⟨H1, eH1⟩ : ∃ H1, H1 = upd (upd H c (.lst [])) a (.ins A.c_Table dx (putF "columns" (.ref c) [])) := ⟨_, rfl⟩
  have a1 : H1 a = some (.ins A.c_Table dx [("columns", .ref c)]) := by rw [eH1]; exact upd_same
  have c1 : H1 c = some (.lst []) := by rw [eH1, upd_ne (Ne.symm n1)]; exact upd_same
  have f1 : ∀ b o, H b = some o → b ≠ a → H1 b = some o := fun b o hb nb => by rw [eH1, upd_ne nb, upd_ne (ne_of_none hb hc)]; exact hb
  rw [← eH1]
  clear eH1
  refine ⟨(by show 0 ≤ sizeLine; decide), fun r hr2 => ?_⟩
  have n2 : a ≠ r := ne_of_none a1 hr2
  have n3 : c ≠ r := ne_of_none c1 hr2
  refine ⟨_, rfl, a, _, _, _, rfl, (by rw [upd_ne n2]; exact a1), T.cl_Table, T.na_Table_rows, (by show 1 < 1000; decide), ?_⟩
  obtain ⟨H2, eH2⟩ : ∃ H2, H2 = upd (upd H1 r (.lst [])) a (.ins A.c_Table dx (putF "rows" (.ref r) [("columns", .ref c)])) := ⟨_, rfl⟩
  have a2 : H2 a = some (.ins A.c_Table dx [("columns", .ref c), ("rows", .ref r)]) := by rw [eH2]; exact upd_same
  have c2 : H2 c = some (.lst []) := by rw [eH2, upd_ne (Ne.symm n1), upd_ne n3]; exact c1
  have r2 : H2 r = some (.lst []) := by rw [eH2, upd_ne (Ne.symm n2)]; exact upd_same
  have f2 : ∀ b o, H b = some o → b ≠ a → H2 b = some o := fun b o hb nb => by rw [eH2, upd_ne nb, upd_ne (ne_of_none (f1 b o hb nb) hr2)]; exact f1 b o hb nb
  rw [← eH2]
  clear eH2
  refine ⟨(by show 0 ≤ sizeLine; decide), fun q hq => ?_⟩
  have n4 : a ≠ q := ne_of_none a2 hq
  have n5 : c ≠ q := ne_of_none c2 hq
  have n6 : r ≠ q := ne_of_none r2 hq
  refine ⟨_, rfl, a, _, _, _, rfl, (by rw [upd_ne n4]; exact a2), T.cl_Table, T.na_Table_questions, (by show 2 < 1000; decide), ?_⟩
  have none_of : ∀ {b : Addr} {G : Hp}, (∀ b o, H b = some o → b ≠ a → G b = some o) → G b = none → b ≠ a → H b = none := fun {b G} fG hb nb => by
    cases z : H b with
    | none => rfl
    | some o => rw [fG b o z nb] at hb; cases hb
  refine k _ c r q (fun b o hb nb => ?_) upd_same ?_ ?_ ?_ n3 n5 n6 hc (none_of f1 hr2 (Ne.symm n2)) (none_of f2 hq (Ne.symm n4))
  · rw [upd_ne nb, upd_ne (ne_of_none (f2 b o hb nb) hq)]
    exact f2 b o hb nb
  · rw [upd_ne (Ne.symm n1), upd_ne n5]
    exact c2
  · rw [upd_ne (Ne.symm n2), upd_ne n6]
    exact r2
  · rw [upd_ne (Ne.symm n4)]
    exact upd_same
theorem ok_Reader_want (T : Txt K mg A) : Ok P w K mg base (L2.CX P w) 3 A.f_Reader_want P_Reader_want (sp_rwant A) := by
  obtain ⟨fd, F, b⟩ := T.F_Reader_want
  obtain ⟨fd_Fault_init, b_Fault_init, G_Fault_init⟩ := ok_Fault_init (P := P) (w := w) (base := base) T
  refine ⟨fd, b, F.okX sc_Reader_want (fun vs H Q E h => by
    obtain ⟨r, l, cs, rs, m, b, c, rfl, _⟩ := h
    rfl) (fun cdv Ar outer s H vs Q E hr h => ?_)⟩
  refine ⟨_, (pss_one (ps_if (pt_not (pt_val (pv 1))) (pss_one (ps_raise rfl (takes_of rfl rfl rfl rfl) (pmk_oex T.oex_Fault T.i_Fault T.t_Fault G_Fault_init (hr.mono (by decide)) b_Fault_init .nil pass0 rfl T.g_Fault (pa_cons (pv 2) (pa_cons (pe_ix ix_tup (pe_ix ix_list (pe_fld (pv 0) rfl) (pe_fld (pv 0) rfl) (fun _ _ => rfl)) pe_int (fun _ _ => rfl)) pa_nil))))) pss_nil)), ?_⟩
  obtain ⟨r, l, cs, rs, m, b, c, rfl, d, kt, kf⟩ := h
  obtain ⟨t, l', rfl⟩ := d.head
  obtain ⟨n, as, q, h1, h2, h3, h4⟩ := d.tok
  refine ⟨_, rfl, b, rfl, ?_⟩
  cases b with
  | true => exact iteF' rfl (kt rfl)
  | false =>
    refine iteT' rfl ?_
    refine ⟨_, rfl, _, rfl, r.R, _, _, _, _, rfl, h1, T.cl_Reader, T.na_Reader_tokens, rfl, ?_⟩
    refine ⟨_, rfl, r.R, _, _, _, _, rfl, h1, T.cl_Reader, T.na_Reader_at, rfl, ?_⟩
    refine ⟨r.TK, _, _, _, rfl, rfl, SqL.of h2, at_of rfl h3, q, _, _, _, rfl, rfl, SqT.of h4, at_of rfl rfl, ?_⟩
    refine ⟨(by show 2 ≤ 1000; decide), fun a1 ha1 => ⟨a1, (c : Int), (t.place : Int), rfl, upd_same, fun H' d2 m2 => ?_⟩⟩
    obtain ⟨m1, m2, m3, m4⟩ := raise_of (A := A) (kf rfl).w ha1 m2
    exact ⟨rfl, d2, _, m1, m2, m3, m4⟩
theorem ok_Reader_comes (T : Txt K mg A) : Ok P w K mg base CX0 1 A.f_Reader_comes P_Reader_comes (sp_comes A) := by
  obtain ⟨fd, F, b⟩ := T.F_Reader_comes
  refine ⟨fd, b, F.ok sc_Reader_comes (fun vs H Q E h => by
    obtain ⟨r, l, cs, rs, m, t, rfl, _⟩ := h
    rfl) (fun cdv Ar outer s H vs Q E hr h => ?_)⟩
  refine ⟨_, (pss_one (ps_ret (pe_cmpR (op_eqD hr.units) (pe_slice sl_tup (pe_ix ix_list (pe_fld (pv 0) rfl) (pe_fld (pv 0) rfl) (fun _ _ => rfl)) (po_some pe_int) po_none) (pe_tup (pa_cons (pv 1) (pa_cons (pv 2) pa_nil))) (nomark _)))), ?_⟩
  obtain ⟨r, l, cs, rs, m, t, rfl, pl, d, k⟩ := h
  obtain ⟨x, l', rfl⟩ := d.head
  obtain ⟨n, as, q, h1, h2, h3, h4⟩ := d.tok
  refine ⟨_, rfl, r.R, _, _, _, _, rfl, h1, T.cl_Reader, T.na_Reader_tokens, rfl, ?_⟩
  refine ⟨_, rfl, r.R, _, _, _, _, rfl, h1, T.cl_Reader, T.na_Reader_at, rfl, ?_⟩
  refine ⟨r.TK, _, _, _, rfl, rfl, SqL.of h2, at_of rfl h3, _, rfl, q, _, rfl, SqT.of h4, (by rintro ⟨z, -⟩; exact absurd (show HT.sIx 3 0 (some 1) = 0 from z) (by decide +kernel)), fun p hp => ?_⟩
  refine ⟨_, rfl, _, rfl, (by show 2 ≤ sizeLine; decide), fun p2 hp2 => ?_⟩
  have e1 : upd H p (.tup (cutV (tokV x) (some 1) none)) p = some (.tup [sortV x.tok, whatV x.tok]) := upd_same
  refine ⟨datum x.tok, datum t, dp_tok (Same.new hp2 _ _ e1), dp_tok upd_same, shaped_datum (d.last.2 x (List.mem_cons_self)), shaped_datum pl.ok, ?_⟩
  rw [datum_eq pl]
  exact k _ ((Same.new hp).trans (Same.new hp2))
theorem ok_Reader_take (T : Txt K mg A) : Ok P w K mg base CX0 1 A.f_Reader_take P_Reader_take (sp_rtake A) := by
  obtain ⟨fd, F, b⟩ := T.F_Reader_take
  refine ⟨fd, b, F.ok sc_Reader_take (fun vs H Q E h => by
    obtain ⟨r, t, l, cs, rs, m, rfl, _⟩ := h
    rfl) (fun cdv Ar outer s H vs Q E hr h => ?_)⟩
  refine ⟨_, (pss_cons (ps_fld (pv 0) (pe_op op_add (pe_fld (pv 0) rfl) pe_int) rfl)
    (pss_one (ps_ret (pe_ix ix_tup (pe_ix ix_list (pe_fld (pv 0) rfl) (pe_op op_sub (pe_fld (pv 0) rfl) pe_int) (fun _ _ => rfl)) pe_int (fun _ _ => rfl))))), ?_⟩
  obtain ⟨r, t, l, cs, rs, m, rfl, d, nl, k⟩ := h
  obtain ⟨n, as, q, h1, h2, h3, h4, h5⟩ := d.taken nl
  refine ⟨_, rfl, r.R, _, _, _, _, rfl, h1, T.cl_Reader, T.na_Reader_at, rfl, _, _, rfl, rfl, ?_⟩
  refine ⟨_, rfl, r.R, _, _, _, rfl, h1, T.cl_Reader, T.na_Reader_at, (by show 3 < 1000; decide), ?_⟩
  have e : putF "at" (.int ((n : Int) + 1)) [("tokens", .ref r.TK), ("at", .int (n : Int)), ("table", .ref r.T)] = ([("tokens", .ref r.TK), ("at", .int ((n : Int) + 1)), ("table", .ref r.T)] : List (Str × V)) := rfl
  rw [e]
  have n1 : r.TK ≠ r.R := ne_of h2 h1 (fun z => nomatch z)
  have n2 : q ≠ r.R := ne_of h4 h1 (fun z => nomatch z)
  have hR : (upd H r.R (.ins A.c_Reader r.dR [("tokens", .ref r.TK), ("at", .int ((n : Int) + 1)), ("table", .ref r.T)])) r.R = some (.ins A.c_Reader r.dR [("tokens", .ref r.TK), ("at", .int ((n : Int) + 1)), ("table", .ref r.T)]) := upd_same
  refine ⟨_, rfl, r.R, _, _, _, _, rfl, hR, T.cl_Reader, T.na_Reader_tokens, rfl, ?_⟩
  refine ⟨_, rfl, r.R, _, _, _, _, rfl, hR, T.cl_Reader, T.na_Reader_at, rfl, _, _, rfl, rfl, ?_⟩
  have e2 : (n : Int) + 1 - 1 = (n : Int) := by omega
  refine ⟨r.TK, _, _, _, rfl, rfl, SqL.of (by rw [upd_ne n1]; exact h2), at_of e2 h3, q, _, _, _, rfl, rfl, SqT.of (by rw [upd_ne n2]; exact h4), at_of rfl rfl, ?_⟩
  refine k _ (fun b o hb nb _ _ _ => ?_) h5
  rw [upd_ne nb]
  exact hb
end
end KR
end
section
set_option maxRecDepth 100000
set_option maxHeartbeats 4000000
/-! reading: Reader_init, read, next_name, read_number, begin, column. -/
namespace KR
open PySem PySem.Spec PyProof.Rows L2
open VamvsBase (PTok Toks RESERVED next here tokEq takeName wrong)
theorem Rd.self {A : Ads} {r : RA} {l : Toks} {cs : List Bts} {rs : List SRow} {m : Nat} {H : Hp} (d : Rd A r l cs rs m H) :
    ∃ n : Nat, H r.R = some (.ins A.c_Reader r.dR [("tokens", .ref r.TK), ("at", .int (n : Int)), ("table", .ref r.T)]) := by
  obtain ⟨n, toks, h1, -⟩ := d.pos
  exact ⟨n, h1⟩
def sp_rread (A : Ads) : Sp := fun vs H Q E => ∃ (r : RA) (l : Toks) (cs : List Bts) (rs : List SRow) (m : Nat) (t : BTok), vs = [.ref r.R, sortV t, whatV t] ∧ Plain t ∧ t ≠ .last ∧ Rd A r l cs rs m H ∧
  Out A r H E (VamvsBase.taken t l) (fun l' H' => Rd A r l' cs rs m H' → Q .non H')
def sp_next_name (A : Ads) : Sp := fun vs H Q E => ∃ (r : RA) (l : Toks) (cs : List Bts) (rs : List SRow) (m : Nat), vs = [.ref r.R] ∧ Rd A r l cs rs m H ∧
  Out A r H E (takeName l) (fun b H' => Rd A r l cs rs m H' → Q (nmV b.1.name) H')
def takeNum (least most : Nat) (l : Toks) : Except VamvsBase.Fault (Nat × Toks) := match l with
  | ⟨q, .num n⟩ :: r => if n < least ∨ most < n then .error ⟨7, q⟩ else .ok (n, r)
  | m => wrong m
theorem takeNum_0 (most : Nat) (l : Toks) : takeNum 0 most l = Vamvsa.takeNat most l := by
  cases l with
  | nil => rfl
  | cons x r =>
    obtain ⟨q, t⟩ := x
    cases t with
    | num n =>
      show (if n < 0 ∨ most < n then _ else _) = (if most < n then _ else _)
      simp only [Nat.not_lt_zero, false_or]
    | _ => rfl
def sp_read_number (A : Ads) : Sp := fun vs H Q E => ∃ (r : RA) (l : Toks) (cs : List Bts) (rs : List SRow) (m least most : Nat), vs = [.ref r.R, .int (least : Int), .int (most : Int)] ∧ Rd A r l cs rs m H ∧
  Out A r H E (takeNum least most l) (fun b H' => Rd A r b.2 cs rs m H' → Q (.int (b.1 : Int)) H')
def sp_begin (A : Ads) : Sp := fun vs H Q E => ∃ (r : RA) (t : PTok) (l : Toks) (cs : List Bts) (rs : List SRow) (m most : Nat) (a : Addr) (xs : List V), vs = [.ref r.R, .ref a, .int (most : Int)] ∧ Rd A r (t :: l) cs rs m H ∧ t.tok ≠ .last ∧
  H a = some (.lst xs) ∧ Out A r H E (if most ≤ xs.length then .error ⟨4, t.place⟩ else .ok l) (fun l' H' => Rd A r l' cs rs m H' → Q .non H')
def takeCol (cs : List Bts) (l : Toks) : Except VamvsBase.Fault (Bts × Toks) := (takeName l).bind fun x => if 4 ≤ cs.length then .error ⟨4, x.1.place⟩ else if cs.contains x.1.name = true then .error ⟨5, x.1.place⟩ else .ok (x.1.name, x.2)
def sp_column (A : Ads) : Sp := fun vs H Q E => ∃ (r : RA) (l : Toks) (cs : List Bts) (m : Nat), vs = [.ref r.R] ∧ Rd A r l cs [] m H ∧
  Out A r H E (takeCol cs l) (fun b H' => Rd A r b.2 (cs ++ [b.1]) [] m H' → Q .non H')
theorem next_head {t : BTok} {x : PTok} {l : Toks} (h : next t (x :: l) = true) (n : t ≠ .last) : x.tok ≠ .last := by
  intro z
  have h2 : tokEq x.tok t = true := h
  rw [z] at h2
  cases t with
  | last => exact n rfl
  | _ => cases h2
theorem in_names (b : Bts) (cs : List Bts) : inV (nmV b) (cs.map nmV) = cs.contains b := by
  unfold inV
  rw [List.any_map]
  induction cs with
  | nil => rfl
  | cons c r ih =>
    rw [List.any_cons, List.contains_cons, ih]
    congr 1
    show (nameS c == nameS b) = (b == c)
    by_cases h : b = c
    · subst h
      rw [beq_self_eq_true, beq_self_eq_true]
    · rw [show (b == c) = false from beq_eq_false_iff_ne.mpr h]
      exact beq_eq_false_iff_ne.mpr fun z => h (nameS_inj z).symm
theorem flat_names (cs : List Bts) : (cs.map nmV).all flatV = true := by
  rw [List.all_map]
  exact List.all_eq_true.mpr fun _ _ => rfl
section
variable {P : Program} {w : World} {K : PySem.W.Frag} {mg : Str → Option Value} {base : Heap} {A : Ads}
theorem ok_Reader_init (T : Txt K mg A) : Ok P w K mg base CX0 3 A.f_Reader_init P_Reader_init (sp_Reader_init A) := by
  obtain ⟨fd, F, b⟩ := T.F_Reader_init
  obtain ⟨fd_Table_init, b_Table_init, G_Table_init⟩ := ok_Table_init (P := P) (w := w) (base := base) T
  refine ⟨fd, b, F.ok sc_Reader_init (fun vs H Q E h => by
    obtain ⟨a, dx, tk, ts, rfl, _⟩ := h
    rfl) (fun cdv Ar outer s H vs Q E hr h => ?_)⟩
  refine ⟨_, (pss_cons (ps_fld (pv 0) (pv 1) rfl)
    (pss_cons (ps_fld (pv 0) pe_int rfl)
    (pss_one (ps_fld (pv 0) (pe_make0 T.mk_Table G_Table_init (hr.mono (by decide)) rfl T.g_Table b_Table_init .nil pass0) rfl)))), ?_⟩
  obtain ⟨a, dx, tk, ts, rfl, ha, ht, hl, k⟩ := h
  refine ⟨_, rfl, _, rfl, a, _, _, _, rfl, ha, T.cl_Reader, T.na_Reader_tokens, (by show 0 < 1000; decide), ?_⟩
  refine ⟨_, rfl, a, _, _, _, rfl, upd_same, T.cl_Reader, T.na_Reader_at, (by show 1 < 1000; decide), ?_⟩
  obtain ⟨H2, eH2⟩ : ∃ H2, H2 = upd (upd H a (.ins A.c_Reader dx (putF "tokens" (.ref tk) []))) a (.ins A.c_Reader dx (putF "at" (.int 0) (putF "tokens" (.ref tk) []))) := ⟨_, rfl⟩
  have a2 : H2 a = some (.ins A.c_Reader dx [("tokens", .ref tk), ("at", .int 0)]) := by rw [eH2]; exact upd_same
  have f2 : ∀ b o, H b = some o → b ≠ a → H2 b = some o := fun b o hb nb => by rw [eH2, upd_ne nb, upd_ne nb]; exact hb
  have none2 : ∀ b, H2 b = none → H b = none := fun b hb => by
    by_cases e : b = a
    · rw [e, a2] at hb
      cases hb
    · cases z : H b with
      | none => rfl
      | some o => rw [f2 b o z e] at hb; cases hb
  rw [← eH2]
  clear eH2
  refine fun x dx2 hx hdx nx => ?_
  have na : a ≠ x := ne_of_none a2 hx
  have na2 : a ≠ dx2 := ne_of_none a2 hdx
  refine ⟨x, dx2, rfl, upd_same, fun H3 c r q f3 h1 h2 h3 h4 m1 m2 m3 g1 g2 g3 => ⟨rfl, ?_⟩⟩
  have old : ∀ b o, H2 b = some o → H3 b = some o := fun b o hb => by
    have n1 : b ≠ x := ne_of_none hb hx
    have n2 : b ≠ dx2 := ne_of_none hb hdx
    exact f3 b o (by rw [upd_ne n1, upd_ne n2]; exact hb) n1
  have none3 : ∀ b, upd (upd H2 dx2 (.own x)) x (.ins A.c_Table dx2 []) b = none → H2 b = none := fun b hb => by
    cases z : H2 b with
    | none => rfl
    | some o =>
      rw [upd_ne (ne_of_none z hx), upd_ne (ne_of_none z hdx), z] at hb
      cases hb
  refine ⟨_, rfl, a, _, _, _, rfl, old _ _ a2, T.cl_Reader, T.na_Reader_table, (by show 2 < 1000; decide), ?_⟩
  have nn : ∀ b, H2 b = none → b ≠ a := fun b hb e => by rw [e, a2] at hb; cases hb
  have nc := nn c (none3 c g1)
  have nr := nn r (none3 r g2)
  have nq := nn q (none3 q g3)
  refine k _ ⟨a, dx, tk, x, dx2, c, r, q⟩ rfl ⟨⟨0, ts, upd_same, ?_, rfl⟩, hl, ?_, ?_, ⟨[], ?_, .nil⟩, ⟨[], ?_, rfl⟩, m1, m2, m3, Nat.zero_le _, List.nodup_nil, Nat.zero_le _, Nat.zero_le _, fun _ h => (List.not_mem_nil h).elim, ?_⟩ ?_ ?_ ?_ ?_ ?_
  · obtain ⟨as, t1, t2⟩ := ht
    have mv : ∀ b o, H b = some o → b ≠ a → upd H3 a (.ins A.c_Reader dx (putF "table" (.ref x) [("tokens", .ref tk), ("at", .int 0)])) b = some o := fun b o hb nb => by
      rw [upd_ne nb]
      exact old _ _ (f2 _ _ hb nb)
    exact ⟨as, mv _ _ t1 (ne_of t1 ha fun z => nomatch z), pr_imp t2 fun _ _ z => mv _ _ z (ne_of z ha fun z => nomatch z)⟩
  · exact (upd_ne (Ne.symm na)).trans h1
  · exact (upd_ne nc).trans h2
  · exact (upd_ne nr).trans h3
  · exact (upd_ne nq).trans h4
  · obtain ⟨as, t1, t2⟩ := ht
    have nt : ∀ b, H2 b = none → tk ≠ b := fun b hb e => by
      have := f2 _ _ t1 (ne_of t1 ha fun z => nomatch z)
      rw [e, hb] at this
      cases this
    exact ⟨nt c (none3 c g1), nt r (none3 r g2), nt q (none3 q g3)⟩
  · intro b o hb nb
    rw [upd_ne nb]
    exact old _ _ (f2 _ _ hb nb)
  · exact none2 _ hx
  · exact none2 _ (none3 c g1)
  · exact none2 _ (none3 r g2)
  · exact none2 _ (none3 q g3)
theorem ok_Reader_read (T : Txt K mg A) : Ok P w K mg base (L2.CX P w) 4 A.f_Reader_read P_Reader_read (sp_rread A) := by
  obtain ⟨fd, F, b⟩ := T.F_Reader_read
  obtain ⟨fd_Reader_comes, b_Reader_comes, G_Reader_comes⟩ := ok_Reader_comes (P := P) (w := w) (base := base) T
  obtain ⟨fd_Reader_take, b_Reader_take, G_Reader_take⟩ := ok_Reader_take (P := P) (w := w) (base := base) T
  obtain ⟨fd_Reader_want, b_Reader_want, G_Reader_want⟩ := ok_Reader_want (P := P) (w := w) (base := base) T
  refine ⟨fd, b, F.okX sc_Reader_read (fun vs H Q E h => by
    obtain ⟨r, l, cs, rs, m, t, rfl, _⟩ := h
    rfl) (fun cdv Ar outer s H vs Q E hr h => ?_)⟩
  refine ⟨_, (pss_cons (ps_expr (pe_meth (pv 0) T.cl_Reader T.m_Reader_want G_Reader_want (hr.mono (by decide)) b_Reader_want .nil (passes_call (takes_of rfl rfl rfl rfl) (fun _ _ _ _ h => h)) (pa_cons (pe_meth (pv 0) T.cl_Reader T.m_Reader_comes G_Reader_comes (hr.mono (by decide)) b_Reader_comes .nil pass0 (pa_cons (pv 1) (pa_cons (pv 2) pa_nil))) (pa_cons (pe_cI T.c_MISPLACED) pa_nil))))
    (pss_one (ps_expr (pe_meth0 (pv 0) T.cl_Reader T.m_Reader_take G_Reader_take (hr.mono (by decide)) b_Reader_take .nil pass0)))), ?_⟩
  obtain ⟨r, l, cs, rs, m, t, rfl, pl, nl, d, k⟩ := h
  obtain ⟨n, h1⟩ := d.self
  refine ⟨_, rfl, r.R, _, _, rfl, h1, rfl, ?_⟩
  refine ⟨_, rfl, r.R, _, _, rfl, h1, rfl, _, rfl, _, rfl, ?_⟩
  refine ⟨r, l, cs, rs, m, t, rfl, pl, d, fun H1 e1 => ?_⟩
  have d1 := d.mono e1
  refine ⟨r, l, cs, rs, m, next t l, 3, rfl, d1, fun hb => ?_, fun hb => ?_⟩
  · obtain ⟨x, l', rfl⟩ := d.head
    have k1 : Out A r H E (.ok l') (fun l' H' => Rd A r l' cs rs m H' → Q .non H') := by
      have : VamvsBase.taken t (x :: l') = .ok l' := if_pos hb
      rw [this] at k
      exact k
    obtain ⟨n1, h11⟩ := d1.self
    refine ⟨_, rfl, r.R, _, _, rfl, h11, rfl, ?_⟩
    refine ⟨r, x, l', cs, rs, m, rfl, d1, next_head hb nl, fun H2 k2 d2 => ?_⟩
    exact k1 H2 ((Kp.of e1).trans k2) d2
  · have : VamvsBase.taken t l = .error ⟨3, here l⟩ := if_neg (by rw [hb]; exact Bool.false_ne_true)
    rw [this] at k
    exact FaultK.mono k (Kp.of e1)
end
end KR
end
section
set_option maxRecDepth 100000
set_option maxHeartbeats 4000000
/-! reading: next_name, read_number, begin, column. -/
namespace KR
open PySem PySem.Spec PyProof.Rows L2
open VamvsBase (PTok Toks RESERVED next here tokEq takeName wrong)
theorem sort_str (t : BTok) : sortV t = .str (dataS t) := by
  cases t with
  | _ => rfl
theorem is_name (t : BTok) : decide (sortV t = V.str "name") = match t with
    | .name b => !RESERVED.contains b
    | _ => false := by
  cases t with
  | name b =>
    show decide (V.str (if RESERVED.contains b = true then "word" else "name") = V.str "name") = !RESERVED.contains b
    by_cases h : RESERVED.contains b = true
    · rw [if_pos h, h]
      exact decide_eq_false fun z => ne_wn (V.str.inj z)
    · rw [if_neg h, Bool.eq_false_iff.mpr h]
      rfl
  | num n => exact decide_eq_false fun z => absurd (V.str.inj z) (by decide)
  | sign c => exact decide_eq_false fun z => absurd (V.str.inj z) (by decide)
  | last => exact decide_eq_false fun z => absurd (V.str.inj z) (by decide)
theorem is_num (t : BTok) : decide (sortV t = V.str "number") = match t with
    | .num _ => true
    | _ => false := by
  cases t with
  | name b =>
    show decide (V.str (if RESERVED.contains b = true then "word" else "name") = V.str "number") = false
    by_cases h : RESERVED.contains b = true
    · rw [if_pos h]
      exact decide_eq_false fun z => absurd (V.str.inj z) (by decide)
    · rw [if_neg h]
      exact decide_eq_false fun z => absurd (V.str.inj z) (by decide)
  | num n => exact decide_eq_true rfl
  | sign c => exact decide_eq_false fun z => absurd (V.str.inj z) (by decide)
  | last => exact decide_eq_false fun z => absurd (V.str.inj z) (by decide)
section
variable {P : Program} {w : World} {K : PySem.W.Frag} {mg : Str → Option Value} {base : Heap} {A : Ads}
theorem ok_Reader_next_name (T : Txt K mg A) : Ok P w K mg base (L2.CX P w) 4 A.f_Reader_next_name P_Reader_next_name (sp_next_name A) := by
  obtain ⟨fd, F, b⟩ := T.F_Reader_next_name
  obtain ⟨fd_Reader_want, b_Reader_want, G_Reader_want⟩ := ok_Reader_want (P := P) (w := w) (base := base) T
  refine ⟨fd, b, F.okX sc_Reader_next_name (fun vs H Q E h => by
    obtain ⟨r, l, cs, rs, m, rfl, _⟩ := h
    rfl) (fun cdv Ar outer s H vs Q E hr h => ?_)⟩
  refine ⟨_, (pss_cons (ps_expr (pe_meth (pv 0) T.cl_Reader T.m_Reader_want G_Reader_want (hr.mono (by decide)) b_Reader_want .nil (passes_call (takes_of rfl rfl rfl rfl) (fun _ _ _ _ h => h)) (pa_cons (pe_cmpR op_eq (pe_ix ix_tup (pe_ix ix_list (pe_fld (pv 0) rfl) (pe_fld (pv 0) rfl) (fun _ _ => rfl)) pe_int (fun _ _ => rfl)) (pe_cS T.c_NAME) (nomark _)) (pa_cons (pe_cI T.c_MISPLACED) pa_nil))))
    (pss_one (ps_ret (pe_ix ix_tup (pe_ix ix_list (pe_fld (pv 0) rfl) (pe_fld (pv 0) rfl) (fun _ _ => rfl)) pe_int (fun _ _ => rfl))))), ?_⟩
  obtain ⟨r, l, cs, rs, m, rfl, d, k⟩ := h
  obtain ⟨x, l', rfl⟩ := d.head
  obtain ⟨n, as, q, h1, h2, h3, h4⟩ := d.tok
  refine ⟨_, rfl, r.R, _, _, rfl, h1, rfl, ?_⟩
  refine ⟨_, rfl, r.R, _, _, _, _, rfl, h1, T.cl_Reader, T.na_Reader_tokens, rfl, ?_⟩
  refine ⟨_, rfl, r.R, _, _, _, _, rfl, h1, T.cl_Reader, T.na_Reader_at, rfl, ?_⟩
  refine ⟨r.TK, _, _, _, rfl, rfl, SqL.of h2, at_of rfl h3, q, _, _, _, rfl, rfl, SqT.of h4, at_of (j := 1) rfl rfl, (by rw [sort_str]; rfl), ?_⟩
  refine ⟨r, x :: l', cs, rs, m, decide (sortV x.tok = V.str "name"), 3, rfl, d, fun hb => ?_, fun hb => ?_⟩
  · refine ⟨_, rfl, r.R, _, _, _, _, rfl, h1, T.cl_Reader, T.na_Reader_tokens, rfl, ?_⟩
    refine ⟨_, rfl, r.R, _, _, _, _, rfl, h1, T.cl_Reader, T.na_Reader_at, rfl, ?_⟩
    refine ⟨r.TK, _, _, _, rfl, rfl, SqL.of h2, at_of rfl h3, q, _, _, _, rfl, rfl, SqT.of h4, at_of (j := 2) rfl rfl, ?_⟩
    rw [is_name] at hb
    obtain ⟨p, t⟩ := x
    cases t with
    | name b =>
      have hb2 : (!RESERVED.contains b) = true := hb
      have e : takeName (⟨p, .name b⟩ :: l') = .ok (⟨p, b⟩, l') := if_neg (by rw [Bool.not_eq_true'] at hb2; rw [hb2]; exact Bool.false_ne_true)
      rw [e] at k
      exact k H (Kp.refl r H) d
    | num n => cases hb
    | sign c => cases hb
    | last => cases hb
  · rw [is_name] at hb
    obtain ⟨p, t⟩ := x
    cases t with
    | name b =>
      have hb2 : (!RESERVED.contains b) = false := hb
      have e : takeName (⟨p, .name b⟩ :: l') = .error ⟨3, p⟩ := if_pos (by rw [Bool.not_eq_false'] at hb2; exact hb2)
      rw [e] at k
      exact k
    | num n => exact k
    | sign c => exact k
    | last => exact k
theorem ok_Reader_read_number (T : Txt K mg A) : Ok P w K mg base (L2.CX P w) 4 A.f_Reader_read_number P_Reader_read_number (sp_read_number A) := by
  obtain ⟨fd, F, b⟩ := T.F_Reader_read_number
  obtain ⟨fd_Reader_take, b_Reader_take, G_Reader_take⟩ := ok_Reader_take (P := P) (w := w) (base := base) T
  obtain ⟨fd_Reader_want, b_Reader_want, G_Reader_want⟩ := ok_Reader_want (P := P) (w := w) (base := base) T
  refine ⟨fd, b, F.okX sc_Reader_read_number (fun vs H Q E h => by
    obtain ⟨r, l, cs, rs, m, least, most, rfl, _⟩ := h
    rfl) (fun cdv Ar outer s H vs Q E hr h => ?_)⟩
  refine ⟨_, (pss_cons (ps_expr (pe_meth (pv 0) T.cl_Reader T.m_Reader_want G_Reader_want (hr.mono (by decide)) b_Reader_want .nil (passes_call (takes_of rfl rfl rfl rfl) (fun _ _ _ _ h => h)) (pa_cons (pe_cmpR op_eq (pe_ix ix_tup (pe_ix ix_list (pe_fld (pv 0) rfl) (pe_fld (pv 0) rfl) (fun _ _ => rfl)) pe_int (fun _ _ => rfl)) (pe_cS T.c_NUMBER) (nomark _)) (pa_cons (pe_cI T.c_MISPLACED) pa_nil))))
    (pss_cons (ps_expr (pe_meth (pv 0) T.cl_Reader T.m_Reader_want G_Reader_want (hr.mono (by decide)) b_Reader_want .nil (passes_call (takes_of rfl rfl rfl rfl) (fun _ _ _ _ h => h)) (pa_cons (pe_chain op_le op_le (pv 1) (pe_ix ix_tup (pe_ix ix_list (pe_fld (pv 0) rfl) (pe_fld (pv 0) rfl) (fun _ _ => rfl)) pe_int (fun _ _ => rfl)) (pv 2)) (pa_cons (pe_cI T.c_OUT_OF_BOUNDS) pa_nil))))
    (pss_one (ps_ret (pe_meth0 (pv 0) T.cl_Reader T.m_Reader_take G_Reader_take (hr.mono (by decide)) b_Reader_take .nil pass0))))), ?_⟩
  obtain ⟨r, l, cs, rs, m, least, most, rfl, d, k⟩ := h
  obtain ⟨x, l', rfl⟩ := d.head
  obtain ⟨n, as, q, h1, h2, h3, h4⟩ := d.tok
  refine ⟨_, rfl, r.R, _, _, rfl, h1, rfl, ?_⟩
  refine ⟨_, rfl, r.R, _, _, _, _, rfl, h1, T.cl_Reader, T.na_Reader_tokens, rfl, ?_⟩
  refine ⟨_, rfl, r.R, _, _, _, _, rfl, h1, T.cl_Reader, T.na_Reader_at, rfl, ?_⟩
  refine ⟨r.TK, _, _, _, rfl, rfl, SqL.of h2, at_of rfl h3, q, _, _, _, rfl, rfl, SqT.of h4, at_of (j := 1) rfl rfl, (by rw [sort_str]; rfl), ?_⟩
  refine ⟨r, x :: l', cs, rs, m, decide (sortV x.tok = V.str "number"), 3, rfl, d, fun hb => ?_, fun hb => ?_⟩
  · rw [is_num] at hb
    obtain ⟨p, t⟩ := x
    cases t with
    | name b => cases hb
    | sign c => cases hb
    | last => cases hb
    | num v =>
      refine ⟨_, rfl, r.R, _, _, rfl, h1, rfl, ?_⟩
      refine ⟨_, rfl, ?_⟩
      refine ⟨_, rfl, r.R, _, _, _, _, rfl, h1, T.cl_Reader, T.na_Reader_tokens, rfl, ?_⟩
      refine ⟨_, rfl, r.R, _, _, _, _, rfl, h1, T.cl_Reader, T.na_Reader_at, rfl, ?_⟩
      refine ⟨r.TK, _, _, _, rfl, rfl, SqL.of h2, at_of rfl h3, q, _, _, _, rfl, rfl, SqT.of h4, at_of (j := 2) rfl rfl, _, _, rfl, rfl, _, rfl, ?_⟩
      have goal : ∀ b : Bool, b = decide (least ≤ v ∧ v ≤ most) → sp_rwant A [.ref r.R, .bl b, .int 7] H (fun _ H' => tRet (tMeth A.c_Reader "take" (sp_rtake A) [] E0 (tVar 0) tNil) { nx := fun _ H' => Q .non H', rt := Q } [some (.ref r.R), some (.int (least : Int)), some (.int (most : Int))] H') E := by
        intro b hb2
        refine ⟨r, _, cs, rs, m, b, 7, rfl, d, fun h => ?_, fun h => ?_⟩
        · rw [hb2] at h
          have h' := of_decide_eq_true h
          refine ⟨_, rfl, r.R, _, _, rfl, h1, rfl, ?_⟩
          refine ⟨r, _, l', cs, rs, m, rfl, d, (fun z => nomatch z), fun H2 k2 d2 => ?_⟩
          have e : takeNum least most (⟨p, .num v⟩ :: l') = .ok (v, l') := if_neg (by omega)
          rw [e] at k
          exact k H2 k2 d2
        · rw [hb2] at h
          have h' := of_decide_eq_false h
          have e : takeNum least most (⟨p, .num v⟩ :: l') = .error ⟨7, p⟩ := if_pos (by omega)
          rw [e] at k
          exact k
      by_cases c1 : least ≤ v
      · refine iteT' (decide_eq_true (by omega)) ?_
        refine ⟨_, rfl, _, _, rfl, rfl, ?_⟩
        refine goal _ ?_
        by_cases c2 : v ≤ most
        · rw [decide_eq_true (show ((v : Int) ≤ (most : Int)) from by omega), decide_eq_true ⟨c1, c2⟩]
        · rw [decide_eq_false (show ¬ ((v : Int) ≤ (most : Int)) from by omega), decide_eq_false fun z => c2 z.2]
      · refine iteF' (decide_eq_false (by omega)) ?_
        exact goal _ (decide_eq_false fun z => c1 z.1).symm
  · rw [is_num] at hb
    obtain ⟨p, t⟩ := x
    cases t with
    | num v => cases hb
    | name b => exact k
    | sign c => exact k
    | last => exact k
theorem ok_Reader_begin (T : Txt K mg A) : Ok P w K mg base (L2.CX P w) 4 A.f_Reader_begin P_Reader_begin (sp_begin A) := by
  obtain ⟨fd, F, b⟩ := T.F_Reader_begin
  obtain ⟨fd_Reader_take, b_Reader_take, G_Reader_take⟩ := ok_Reader_take (P := P) (w := w) (base := base) T
  obtain ⟨fd_Reader_want, b_Reader_want, G_Reader_want⟩ := ok_Reader_want (P := P) (w := w) (base := base) T
  refine ⟨fd, b, F.okX sc_Reader_begin (fun vs H Q E h => by
    obtain ⟨r, t, l, cs, rs, m, most, a, xs, rfl, _⟩ := h
    rfl) (fun cdv Ar outer s H vs Q E hr h => ?_)⟩
  refine ⟨_, (pss_cons (ps_expr (pe_meth (pv 0) T.cl_Reader T.m_Reader_want G_Reader_want (hr.mono (by decide)) b_Reader_want .nil (passes_call (takes_of rfl rfl rfl rfl) (fun _ _ _ _ h => h)) (pa_cons (pe_cmpR op_lt (pe_callB call_len_seq (by rfl) T.n_len (by decide +kernel) (pa_cons (pv 1) pa_nil)) (pv 2) (nomark _)) (pa_cons (pe_cI T.c_TOO_MANY_reading) pa_nil))))
    (pss_one (ps_expr (pe_meth0 (pv 0) T.cl_Reader T.m_Reader_take G_Reader_take (hr.mono (by decide)) b_Reader_take .nil pass0)))), ?_⟩
  obtain ⟨r, t, l, cs, rs, m, most, a, xs, rfl, d, nl, ha, k⟩ := h
  obtain ⟨n, h1⟩ := d.self
  refine ⟨_, rfl, r.R, _, _, rfl, h1, rfl, ?_⟩
  refine ⟨_, rfl, a, xs, rfl, .inl (SqL.of ha), _, rfl, _, _, rfl, rfl, ?_⟩
  refine ⟨r, t :: l, cs, rs, m, _, 4, rfl, d, fun hb => ?_, fun hb => ?_⟩
  · have hb2 := of_decide_eq_true hb
    rw [if_neg (by omega)] at k
    refine ⟨_, rfl, r.R, _, _, rfl, h1, rfl, ?_⟩
    exact ⟨r, t, l, cs, rs, m, rfl, d, nl, fun H2 k2 d2 => k H2 k2 d2⟩
  · have hb2 := of_decide_eq_false hb
    rw [if_pos (by omega)] at k
    exact k
end
end KR
end
section
set_option maxRecDepth 100000
set_option maxHeartbeats 4000000
/-! reading: column, all_columns, summed. -/
namespace KR
open PySem PySem.Spec PyProof.Rows L2
open VamvsBase (PTok Toks RESERVED next here tokEq takeName wrong takeSign takeWord)
open Vamvsa (takeColumns takeInt takeNat)
theorem str_comma : V.str "," = whatV (.sign 44) := by decide +kernel
theorem str_colon : V.str ":" = whatV (.sign 58) := by decide +kernel
theorem str_semi : V.str ";" = whatV (.sign 59) := by decide +kernel
theorem str_minus : V.str "-" = whatV (.sign 45) := by decide +kernel
theorem str_sign (c : Nat) : V.str "sign" = sortV (.sign c) := rfl
theorem res_columns : RESERVED.contains (VamvsBase.word "columns") = true := by decide +kernel
theorem res_row : RESERVED.contains (VamvsBase.word "row") = true := by decide +kernel
theorem res_ask : RESERVED.contains (VamvsBase.word "ask") = true := by decide +kernel
theorem res_times : RESERVED.contains (VamvsBase.word "times") = true := by decide +kernel
theorem str_columns : V.str "columns" = whatV (.name (VamvsBase.word "columns")) := by decide +kernel
theorem str_row : V.str "row" = whatV (.name (VamvsBase.word "row")) := by decide +kernel
theorem str_ask : V.str "ask" = whatV (.name (VamvsBase.word "ask")) := by decide +kernel
theorem str_times : V.str "times" = whatV (.name (VamvsBase.word "times")) := by decide +kernel
theorem str_word {b : Bts} (h : RESERVED.contains b = true) : V.str "word" = sortV (.name b) := congrArg V.str (if_pos h).symm
theorem Kp.mut {r : RA} {H H' : Hp} {v : Addr} {o : HO} (k : Kp r H H') (h : H v = none) : Kp r H (upd H' v o) := fun b u hb n1 n2 n3 n4 => by
  rw [upd_ne (ne_of_none hb h)]
  exact k b u hb n1 n2 n3 n4
theorem takeName_shape {l : Toks} {x : VamvsBase.PName × Toks} (h : takeName l = .ok x) : ∃ q b, l = ⟨q, .name b⟩ :: x.2 ∧ x.1 = ⟨q, b⟩ := by
  cases l with
  | nil => cases h
  | cons t r =>
    obtain ⟨q, t⟩ := t
    cases t with
    | name b =>
      have h2 : (if RESERVED.contains b = true then wrong (⟨q, .name b⟩ :: r) else .ok (⟨q, b⟩, r)) = Except.ok x := h
      by_cases c : RESERVED.contains b = true
      · rw [if_pos c] at h2
        cases h2
      · rw [if_neg c] at h2
        cases h2
        exact ⟨q, b, rfl, rfl⟩
    | num n => cases h
    | sign c => cases h
    | last => cases h
theorem Rd.addcol {A : Ads} {r : RA} {l : Toks} {cs : List Bts} {m : Nat} {H : Hp} {b : Bts} (d : Rd A r l cs [] m H) (h4 : cs.length < 4) (hb : cs.contains b = false) :
    Rd A r l (cs ++ [b]) [] m (upd H r.CL (.lst (cs.map nmV ++ [nmV b]))) := by
  obtain ⟨n, toks, h1, ⟨as, h2, pa⟩, h3⟩ := d.pos
  obtain ⟨as2, hRL, pr⟩ := d.rows
  obtain ⟨qs, hQ, hQ2⟩ := d.asks
  cases pr
  have mv : ∀ x o, H x = some o → (∀ xs, o ≠ .lst xs) → upd H r.CL (.lst (cs.map nmV ++ [nmV b])) x = some o := fun x o hx hn => by
    rw [upd_ne fun z => by rw [z, d.cols] at hx; exact hn _ (Option.some.inj hx).symm]
    exact hx
  have hT : r.TK ≠ r.CL := d.tk.1
  refine ⟨⟨n, toks, mv _ _ h1 fun _ z => (nomatch z), ⟨as, (upd_ne hT).trans h2, pr_imp pa fun _ _ z => mv _ _ z fun _ z => (nomatch z)⟩, h3⟩, d.last, mv _ _ d.tab fun _ z => (nomatch z), ?_, ⟨_, (upd_ne (Ne.symm d.ne1)).trans hRL, .nil⟩, ⟨qs, (upd_ne (Ne.symm d.ne2)).trans hQ, hQ2⟩, d.ne1, d.ne2, d.ne3, ?_, ?_, d.r16, d.m8, fun _ h => (List.not_mem_nil h).elim, d.tk⟩
  · rw [upd_same, List.map_append]
    rfl
  · rw [List.length_append]
    show _ + 1 ≤ 4
    omega
  · refine List.nodup_append.mpr ⟨d.nd, List.nodup_cons.mpr ⟨fun h => (List.not_mem_nil h).elim, List.nodup_nil⟩, fun x hx y hy z => ?_⟩
    rw [List.mem_singleton.mp hy] at z
    rw [z] at hx
    rw [List.contains_iff_mem.mpr hx] at hb
    cases hb
theorem takeColumns_eq (n : Nat) (cs : List Bts) (l : Toks) : takeColumns (n + 1) cs l = (takeCol cs l).bind fun x => if next (.sign 44) x.2 = true then takeColumns n (cs ++ [x.1]) (x.2.drop 1) else (takeSign 59 x.2).map fun m => (cs ++ [x.1], m) := by
  show (takeName l).bind _ = ((takeName l).bind _).bind _
  cases takeName l with
  | error e => rfl
  | ok x =>
    show (if 4 ≤ cs.length then _ else _) = Except.bind (if 4 ≤ cs.length then _ else _) _
    split
    · rfl
    · split
      · rfl
      · rfl
theorem takeCol_len {cs : List Bts} {l : Toks} {x : Bts × Toks} (h : takeCol cs l = .ok x) : x.2.length < l.length := by
  unfold takeCol at h
  cases e : takeName l with
  | error f => rw [e] at h; cases h
  | ok y =>
    rw [e] at h
    have h2 : (if 4 ≤ cs.length then (Except.error ⟨4, y.1.place⟩ : Except VamvsBase.Fault (Bts × Toks)) else if cs.contains y.1.name = true then .error ⟨5, y.1.place⟩ else .ok (y.1.name, y.2)) = Except.ok x := h
    obtain ⟨q, b, e1, e2⟩ := takeName_shape e
    split at h2
    · cases h2
    · split at h2
      · cases h2
      · cases h2
        rw [e1]
        exact Nat.lt_succ_self _
def sp_all_columns (A : Ads) : Sp := fun vs H Q E => ∃ (r : RA) (l : Toks) (m : Nat), vs = [.ref r.R] ∧ Rd A r l [] [] m H ∧
  Out A r H E ((takeWord "columns" l).bind fun x => takeColumns (x.length + 1) [] x) (fun b H' => Rd A r b.2 b.1 [] m H' → 0 < b.1.length → Q .non H')
def sp_summed (A : Ads) : Sp := fun vs H Q E => ∃ (r : RA) (l : Toks) (cs : List Bts) (rs : List SRow) (m : Nat), vs = [.ref r.R] ∧ Rd A r l cs rs m H ∧
  Out A r H E (takeInt l) (fun b H' => Rd A r b.2 cs rs m H' → Q (.int b.1) H')
section
variable {P : Program} {w : World} {K : PySem.W.Frag} {mg : Str → Option Value} {base : Heap} {A : Ads}
theorem ok_Reader_column (T : Txt K mg A) : Ok P w K mg base (L2.CX P w) 5 A.f_Reader_column P_Reader_column (sp_column A) := by
  obtain ⟨fd, F, b⟩ := T.F_Reader_column
  obtain ⟨fd_Reader_next_name, b_Reader_next_name, G_Reader_next_name⟩ := ok_Reader_next_name (P := P) (w := w) (base := base) T
  obtain ⟨fd_Reader_take, b_Reader_take, G_Reader_take⟩ := ok_Reader_take (P := P) (w := w) (base := base) T
  obtain ⟨fd_Reader_want, b_Reader_want, G_Reader_want⟩ := ok_Reader_want (P := P) (w := w) (base := base) T
  refine ⟨fd, b, F.okX sc_Reader_column (fun vs H Q E h => by
    obtain ⟨r, l, cs, m, rfl, _⟩ := h
    rfl) (fun cdv Ar outer s H vs Q E hr h => ?_)⟩
  refine ⟨_, (pss_cons (ps_set (i := 1) sc_Reader_column.nd rfl (by first | exact Or.inl rfl | exact Or.inr rfl) (pe_meth0 (pv 0) T.cl_Reader T.m_Reader_next_name G_Reader_next_name (hr.mono (by decide)) b_Reader_next_name .nil (passes_call (takes_of rfl rfl rfl rfl) (fun _ _ _ _ h => h))))
    (pss_cons (ps_expr (pe_meth (pv 0) T.cl_Reader T.m_Reader_want G_Reader_want (hr.mono (by decide)) b_Reader_want .nil (passes_call (takes_of rfl rfl rfl rfl) (fun _ _ _ _ h => h)) (pa_cons (pe_cmpR op_lt (pe_callB call_len_seq (by rfl) T.n_len (by decide +kernel) (pa_cons (pe_fld (pe_fld (pv 0) rfl) rfl) pa_nil)) (pe_cI T.c_MOST_COLUMNS) (nomark _)) (pa_cons (pe_cI T.c_TOO_MANY_reading) pa_nil))))
    (pss_cons (ps_expr (pe_meth (pv 0) T.cl_Reader T.m_Reader_want G_Reader_want (hr.mono (by decide)) b_Reader_want .nil (passes_call (takes_of rfl rfl rfl rfl) (fun _ _ _ _ h => h)) (pa_cons (pe_cmpR op_notIn_seq (pv 1) (pe_fld (pe_fld (pv 0) rfl) rfl) rfl) (pa_cons (pe_cI T.c_TAKEN_reading) pa_nil))))
    (pss_one (ps_expr (pe_bm PySem.F.plainAttrs_list PySem.F.slot_list_append PySem.F.type_list_append mt_append (pe_fld (pe_fld (pv 0) rfl) rfl) (pa_cons (pe_meth0 (pv 0) T.cl_Reader T.m_Reader_take G_Reader_take (hr.mono (by decide)) b_Reader_take .nil pass0) pa_nil))))))), ?_⟩
  obtain ⟨r, l, cs, m, rfl, d, k⟩ := h
  obtain ⟨n, h1⟩ := d.self
  refine ⟨_, rfl, r.R, _, _, rfl, h1, rfl, ?_⟩
  refine ⟨r, l, cs, [], m, rfl, d, Out.bind k fun b hb H1 kp k1 d1 => ?_⟩
  obtain ⟨n1, h11⟩ := d1.self
  -- want(len(columns) < MOST_COLUMNS, TOO_MANY)
  refine ⟨_, rfl, r.R, _, _, rfl, h11, rfl, ?_⟩
  refine ⟨_, rfl, r.R, _, _, _, _, rfl, h11, T.cl_Reader, T.na_Reader_table, rfl, r.T, _, _, _, _, rfl, d1.tab, T.cl_Table, T.na_Table_columns, rfl, r.CL, _, rfl, .inl (SqL.of d1.cols), _, _, rfl, rfl, ?_⟩
  obtain ⟨q, nm, rfl, e2⟩ := takeName_shape hb
  have hpl : b.1.place = here (⟨q, .name nm⟩ :: b.2) := by rw [e2]; rfl
  refine ⟨r, _, cs, [], m, _, 4, rfl, d1, fun hc => ?_, fun hc => ?_⟩
  · have hc2 := of_decide_eq_true hc
    rw [List.length_map] at hc2
    rw [if_neg (by omega)] at k1
    -- want(name not in columns, TAKEN)
    refine ⟨_, rfl, r.R, _, _, rfl, h11, rfl, ?_⟩
    refine ⟨_, rfl, _, rfl, r.R, _, _, _, _, rfl, h11, T.cl_Reader, T.na_Reader_table, rfl, r.T, _, _, _, _, rfl, d1.tab, T.cl_Table, T.na_Table_columns, rfl, r.CL, _, rfl, .inl (SqL.of d1.cols), rfl, flat_names cs, ?_⟩
    refine ⟨r, _, cs, [], m, !inV (nmV b.1.name) (cs.map nmV), 5, rfl, d1, fun hi => ?_, fun hi => ?_⟩
    · rw [in_names, Bool.not_eq_true'] at hi
      rw [if_neg (by rw [hi]; exact Bool.false_ne_true)] at k1
      refine ⟨_, rfl, r.R, _, _, _, _, rfl, h11, T.cl_Reader, T.na_Reader_table, rfl, r.T, _, _, _, _, rfl, d1.tab, T.cl_Table, T.na_Table_columns, rfl, .inl ⟨rfl, _, SqL.of d1.cols⟩, ?_⟩
      refine ⟨_, rfl, r.R, _, _, rfl, h11, rfl, ?_⟩
      refine ⟨r, _, b.2, cs, [], m, rfl, d1, (fun z => nomatch z), fun H2 k2 d2 => ?_⟩
      refine ⟨r.CL, _, _, rfl, rfl, d2.cols, sz_lt (by rw [List.length_map]; omega), ?_⟩
      have e3 : nm = b.1.name := by rw [e2]
      have d3 := d2.addcol (b := b.1.name) (by omega) hi
      refine k1 _ ?_ ?_
      · exact k2.trans fun x o hx _ n2 _ _ => by rw [upd_ne n2]; exact hx
      · show Rd A r b.2 (cs ++ [b.1.name]) [] m (upd H2 r.CL (.lst (cs.map nmV ++ [nmV nm])))
        rw [e3]
        exact d3
    · rw [in_names, Bool.not_eq_false'] at hi
      rw [if_pos hi, hpl] at k1
      exact k1
  · have hc2 := of_decide_eq_false hc
    rw [List.length_map] at hc2
    rw [if_pos (by omega), hpl] at k1
    exact k1
theorem ok_Reader_all_columns (T : Txt K mg A) : Ok P w K mg base (L2.CX P w) 6 A.f_Reader_all_columns P_Reader_all_columns (sp_all_columns A) := by
  obtain ⟨fd, F, b⟩ := T.F_Reader_all_columns
  obtain ⟨fd_Reader_column, b_Reader_column, G_Reader_column⟩ := ok_Reader_column (P := P) (w := w) (base := base) T
  obtain ⟨fd_Reader_comes, b_Reader_comes, G_Reader_comes⟩ := ok_Reader_comes (P := P) (w := w) (base := base) T
  obtain ⟨fd_Reader_read, b_Reader_read, G_Reader_read⟩ := ok_Reader_read (P := P) (w := w) (base := base) T
  obtain ⟨fd_Reader_take, b_Reader_take, G_Reader_take⟩ := ok_Reader_take (P := P) (w := w) (base := base) T
  refine ⟨fd, b, F.okX sc_Reader_all_columns (fun vs H Q E h => by
    obtain ⟨r, l, m, rfl, _⟩ := h
    rfl) (fun cdv Ar outer s H vs Q E hr h => ?_)⟩
  refine ⟨_, (pss_cons (ps_expr (pe_meth (pv 0) T.cl_Reader T.m_Reader_read G_Reader_read (hr.mono (by decide)) b_Reader_read .nil (passes_call (takes_of rfl rfl rfl rfl) (fun _ _ _ _ h => h)) (pa_cons (pe_cS T.c_WORD) (pa_cons pe_str pa_nil))))
    (pss_cons (ps_expr (pe_meth0 (pv 0) T.cl_Reader T.m_Reader_column G_Reader_column (hr.mono (by decide)) b_Reader_column .nil (passes_call (takes_of rfl rfl rfl rfl) (fun _ _ _ _ h => h))))
    (pss_cons (ps_while (passes_of rfl) (pt_val (pe_meth (pv 0) T.cl_Reader T.m_Reader_comes G_Reader_comes (hr.mono (by decide)) b_Reader_comes .nil pass0 (pa_cons (pe_cS T.c_SIGN) (pa_cons pe_str pa_nil)))) (pss_cons (ps_expr (pe_meth0 (pv 0) T.cl_Reader T.m_Reader_take G_Reader_take (hr.mono (by decide)) b_Reader_take .nil pass0))
    (pss_one (ps_expr (pe_meth0 (pv 0) T.cl_Reader T.m_Reader_column G_Reader_column (hr.mono (by decide)) b_Reader_column .nil (passes_call (takes_of rfl rfl rfl rfl) (fun _ _ _ _ h => h)))))))
    (pss_one (ps_expr (pe_meth (pv 0) T.cl_Reader T.m_Reader_read G_Reader_read (hr.mono (by decide)) b_Reader_read .nil (passes_call (takes_of rfl rfl rfl rfl) (fun _ _ _ _ h => h)) (pa_cons (pe_cS T.c_SIGN) (pa_cons pe_str pa_nil)))))))), ?_⟩
  obtain ⟨r, l, m, rfl, d, k⟩ := h
  obtain ⟨n, h1⟩ := d.self
  refine ⟨_, rfl, r.R, _, _, rfl, h1, rfl, ?_⟩
  refine ⟨r, l, [], [], m, .name (VamvsBase.word "columns"), by rw [← str_word res_columns, ← str_columns]; rfl, .word res_columns, (fun z => nomatch z), d, Out.bind k fun l1 hb H1 kp k1 d1 => ?_⟩
  obtain ⟨n1, h11⟩ := d1.self
  rw [takeColumns_eq] at k1
  refine ⟨_, rfl, r.R, _, _, rfl, h11, rfl, ?_⟩
  refine ⟨r, l1, [], m, rfl, d1, Out.bind k1 fun b hb2 H2 kp2 k2 d2 => ?_⟩
  -- while comes(SIGN, ",")
  refine ⟨fun mm σ H' => ∃ (l : Toks) (cs : List Bts) (f : Nat), σ = [some (.ref r.R)] ∧ Rd A r l cs [] m H' ∧ Kp r H H' ∧ 0 < cs.length ∧ mm = l.length ∧ l.length ≤ f ∧
      Out A r H' E (if next (.sign 44) l = true then takeColumns f cs (l.drop 1) else (takeSign 59 l).map fun m => (cs, m)) (fun b H' => Rd A r b.2 b.1 [] m H' → 0 < b.1.length → Q .non H'),
    ⟨_, b.2, [b.1], l1.length, rfl, d2, kp.trans kp2, Nat.one_pos, rfl, Nat.le_of_lt (takeCol_len hb2), k2⟩, ?_⟩
  rintro mm σ H3 ⟨l3, cs, f, rfl, d3, kp3, c0, rfl, hf, k3⟩
  obtain ⟨n3, h13⟩ := d3.self
  refine ⟨_, rfl, r.R, _, _, rfl, h13, rfl, ?_⟩
  refine ⟨r, l3, cs, [], m, .sign 44, by rw [← str_comma]; rfl, .sign (by decide), d3, fun H4 e4 => ⟨_, rfl, ?_⟩⟩
  have d4 := d3.mono e4
  obtain ⟨n4, h14⟩ := d4.self
  have k4 := Out.mono k3 (Kp.of e4)
  by_cases c : next (.sign 44) l3 = true
  · refine iteT' c ⟨_, fun _ _ h => h, ?_⟩
    rw [if_pos c] at k4
    obtain ⟨t, l4, rfl⟩ := d4.head
    refine ⟨_, rfl, r.R, _, _, rfl, h14, rfl, ?_⟩
    refine ⟨r, t, l4, cs, [], m, rfl, d4, next_head c (fun z => nomatch z), fun H5 kp5 d5 => ?_⟩
    obtain ⟨n5, h15⟩ := d5.self
    refine ⟨_, rfl, r.R, _, _, rfl, h15, rfl, ?_⟩
    obtain ⟨f2, rfl⟩ : ∃ f2, f = f2 + 1 := ⟨f - 1, by rw [List.length_cons] at hf; omega⟩
    have k5 : Out A r H5 E (takeColumns (f2 + 1) cs l4) _ := Out.mono k4 kp5
    rw [takeColumns_eq] at k5
    refine ⟨r, l4, cs, m, rfl, d5, Out.bind k5 fun b5 hb5 H6 kp6 k6 d6 => ?_⟩
    have hlen := takeCol_len hb5
    rw [List.length_cons] at hf
    refine ⟨b5.2.length, by rw [List.length_cons]; omega, b5.2, cs ++ [b5.1], f2, rfl, d6, ((kp3.trans (Kp.of e4)).trans kp5).trans kp6, by rw [List.length_append]; show 0 < _ + 1; omega, rfl, by omega, k6⟩
  · refine iteF' (Bool.eq_false_iff.mpr c) ?_
    rw [if_neg c] at k4
    refine ⟨_, rfl, r.R, _, _, rfl, h14, rfl, ?_⟩
    refine ⟨r, l3, cs, [], m, .sign 59, by rw [← str_semi]; rfl, .sign (by decide), (fun z => nomatch z), d4, Out.map k4 fun l5 hb5 H5 kp5 k5 d5 => ?_⟩
    exact k5 H5 (Kp.refl r H5) d5 c0
theorem ok_Reader_summed (T : Txt K mg A) : Ok P w K mg base (L2.CX P w) 5 A.f_Reader_summed P_Reader_summed (sp_summed A) := by
  obtain ⟨fd, F, b⟩ := T.F_Reader_summed
  obtain ⟨fd_Reader_comes, b_Reader_comes, G_Reader_comes⟩ := ok_Reader_comes (P := P) (w := w) (base := base) T
  obtain ⟨fd_Reader_read_number, b_Reader_read_number, G_Reader_read_number⟩ := ok_Reader_read_number (P := P) (w := w) (base := base) T
  obtain ⟨fd_Reader_take, b_Reader_take, G_Reader_take⟩ := ok_Reader_take (P := P) (w := w) (base := base) T
  refine ⟨fd, b, F.okX sc_Reader_summed (fun vs H Q E h => by
    obtain ⟨r, l, cs, rs, m, rfl, _⟩ := h
    rfl) (fun cdv Ar outer s H vs Q E hr h => ?_)⟩
  refine ⟨_, (pss_cons (ps_if (pt_val (pe_meth (pv 0) T.cl_Reader T.m_Reader_comes G_Reader_comes (hr.mono (by decide)) b_Reader_comes .nil pass0 (pa_cons (pe_cS T.c_SIGN) (pa_cons pe_str pa_nil)))) (pss_cons (ps_expr (pe_meth0 (pv 0) T.cl_Reader T.m_Reader_take G_Reader_take (hr.mono (by decide)) b_Reader_take .nil pass0))
    (pss_one (ps_ret (pe_un un_neg (pe_meth (pv 0) T.cl_Reader T.m_Reader_read_number G_Reader_read_number (hr.mono (by decide)) b_Reader_read_number .nil (passes_call (takes_of rfl rfl rfl rfl) (fun _ _ _ _ h => h)) (pa_cons pe_int (pa_cons (pe_cI T.c_MOST_SUMMED) pa_nil))))))) pss_nil)
    (pss_one (ps_ret (pe_meth (pv 0) T.cl_Reader T.m_Reader_read_number G_Reader_read_number (hr.mono (by decide)) b_Reader_read_number .nil (passes_call (takes_of rfl rfl rfl rfl) (fun _ _ _ _ h => h)) (pa_cons pe_int (pa_cons (pe_cI T.c_MOST_SUMMED) pa_nil)))))), ?_⟩
  obtain ⟨r, l, cs, rs, m, rfl, d, k⟩ := h
  obtain ⟨n, h1⟩ := d.self
  refine ⟨_, rfl, r.R, _, _, rfl, h1, rfl, ?_⟩
  refine ⟨r, l, cs, rs, m, .sign 45, by rw [← str_minus]; rfl, .sign (by decide), d, fun H1 e1 => ⟨_, rfl, ?_⟩⟩
  have d1 := d.mono e1
  obtain ⟨n1, h11⟩ := d1.self
  have k1 := Out.mono k (Kp.of e1)
  by_cases c : next (.sign 45) l = true
  · refine iteT' c ?_
    obtain ⟨t, l', rfl⟩ := d1.head
    refine ⟨_, rfl, r.R, _, _, rfl, h11, rfl, ?_⟩
    refine ⟨r, t, l', cs, rs, m, rfl, d1, next_head c (fun z => nomatch z), fun H2 kp2 d2 => ?_⟩
    obtain ⟨n2, h12⟩ := d2.self
    have e : takeInt (t :: l') = (takeNat 1000 l').map fun x => (-(x.1 : Int), x.2) := by
      unfold takeInt
      rw [c]
      rfl
    rw [e, ← takeNum_0] at k1
    refine ⟨_, rfl, r.R, _, _, rfl, h12, rfl, ?_⟩
    refine ⟨r, l', cs, rs, m, 0, 1000, rfl, d2, Out.map (Out.mono k1 kp2) fun b hb H3 kp3 k3 d3 => ?_⟩
    exact ⟨_, rfl, k3 H3 (Kp.refl r H3) d3⟩
  · refine iteF' (Bool.eq_false_iff.mpr c) ?_
    have c' := Bool.eq_false_iff.mpr c
    have e : takeInt l = (takeNat 1000 l).map fun x => ((x.1 : Int), x.2) := by
      unfold takeInt
      rw [c']
      rfl
    rw [e, ← takeNum_0] at k1
    refine ⟨_, rfl, r.R, _, _, rfl, h11, rfl, ?_⟩
    refine ⟨r, l, cs, rs, m, 0, 1000, rfl, d1, Out.map k1 fun b hb H3 kp3 k3 d3 => ?_⟩
    exact k3 H3 (Kp.refl r H3) d3
end
end KR
end
section
set_option maxRecDepth 100000
set_option maxHeartbeats 4000000
/-! reading: row. -/
namespace KR
open PySem PySem.Spec PyProof.Rows L2
open VamvsBase (PTok Toks RESERVED next here tokEq takeName wrong takeSign takeWord)
open Vamvsa (takeColumns takeInt takeNat takeValues)
section
variable {A : Ads} {r : RA} {l : Toks} {cs : List Bts} {rs : List SRow} {m : Nat} {H : Hp}
/-- where a new list lies -/
def Off (r : RA) (v : Addr) : Prop := v ≠ r.R ∧ v ≠ r.TK ∧ v ≠ r.CL ∧ v ≠ r.RL ∧ v ≠ r.QL
theorem Rd.off (d : Rd A r l cs rs m H) {v : Addr} (h : H v = none) : Off r v := by
  obtain ⟨n, toks, h1, ⟨as, h2, -⟩, -⟩ := d.pos
  obtain ⟨as2, h3, -⟩ := d.rows
  obtain ⟨qs, h4, -⟩ := d.asks
  exact ⟨(ne_of_none h1 h).symm, (ne_of_none h2 h).symm, (ne_of_none d.cols h).symm, (ne_of_none h3 h).symm, (ne_of_none h4 h).symm⟩
/-- a local list changes -/
theorem Rd.loc (d : Rd A r l cs rs m H) {v : Addr} {xs ys : List V} (o : Off r v) (hv : H v = some (.lst xs)) : Rd A r l cs rs m (upd H v (.lst ys)) := by
  obtain ⟨n, toks, h1, ⟨as, h2, pa⟩, h3⟩ := d.pos
  obtain ⟨as2, hRL, pr⟩ := d.rows
  obtain ⟨qs, hQ, hQ2⟩ := d.asks
  obtain ⟨o1, o2, o3, o4, o5⟩ := o
  have mv : ∀ x u, H x = some u → (∀ xs, u ≠ .lst xs) → upd H v (.lst ys) x = some u := fun x u hx hn => by
    rw [upd_ne fun z => by rw [z, hv] at hx; exact hn _ (Option.some.inj hx).symm]
    exact hx
  exact ⟨⟨n, toks, mv _ _ h1 fun _ z => (nomatch z), ⟨as, (upd_ne (Ne.symm o2)).trans h2, pr_imp pa fun _ _ z => mv _ _ z fun _ z => (nomatch z)⟩, h3⟩, d.last, mv _ _ d.tab fun _ z => (nomatch z), (upd_ne (Ne.symm o3)).trans d.cols,
    ⟨as2, (upd_ne (Ne.symm o4)).trans hRL, pr_imp pr fun _ _ ⟨u, u1, u2⟩ => ⟨u, mv _ _ u1 fun _ z => (nomatch z), mv _ _ u2 fun _ z => (nomatch z)⟩⟩, ⟨qs, (upd_ne (Ne.symm o5)).trans hQ, hQ2⟩, d.ne1, d.ne2, d.ne3, d.c4, d.nd, d.r16, d.m8, d.rok, d.tk⟩
theorem Rd.addrow (d : Rd A r l cs rs m H) {as : List Addr} {p : Addr} {x : SRow} (hRL : H r.RL = some (.lst (as.map V.ref))) (hx : RowAt H p x) (ok : RowOk cs.length x) (lt : rs.length < 16) :
    Rd A r l cs (rs ++ [x]) m (upd H r.RL (.lst (as.map V.ref ++ [.ref p]))) := by
  obtain ⟨n, toks, h1, ⟨as0, h2, pa⟩, h3⟩ := d.pos
  obtain ⟨as2, hRL2, pr⟩ := d.rows
  obtain ⟨qs, hQ, hQ2⟩ := d.asks
  have mv : ∀ x u, H x = some u → (∀ xs, u ≠ .lst xs) → upd H r.RL (.lst (as.map V.ref ++ [.ref p])) x = some u := fun x u hx hn => by
    rw [upd_ne fun z => by rw [z, hRL] at hx; exact hn _ (Option.some.inj hx).symm]
    exact hx
  have mr : ∀ a y, RowAt H a y → RowAt (upd H r.RL (.lst (as.map V.ref ++ [.ref p]))) a y := fun a y ⟨u, u1, u2⟩ => ⟨u, mv _ _ u1 fun _ z => (nomatch z), mv _ _ u2 fun _ z => (nomatch z)⟩
  have eas : as2 = as := by
    rw [hRL] at hRL2
    have := HO.lst.inj (Option.some.inj hRL2)
    exact (List.map_inj_right (f := V.ref) (fun a b h => V.ref.inj h)).mp this.symm
  rw [eas] at pr
  refine ⟨⟨n, toks, mv _ _ h1 fun _ z => (nomatch z), ⟨as0, (upd_ne d.tk.2.1).trans h2, pr_imp pa fun _ _ z => mv _ _ z fun _ z => (nomatch z)⟩, h3⟩, d.last, mv _ _ d.tab fun _ z => (nomatch z), (upd_ne d.ne1).trans d.cols,
    ⟨as ++ [p], by rw [upd_same, List.map_append]; rfl, pr_app (pr_imp pr mr) (.cons (mr _ _ hx) .nil)⟩, ⟨qs, (upd_ne (Ne.symm d.ne3)).trans hQ, hQ2⟩, d.ne1, d.ne2, d.ne3, d.c4, d.nd, ?_, d.m8, ?_, d.tk⟩
  · rw [List.length_append]
    exact lt
  · intro y hy
    rcases List.mem_append.mp hy with h | h
    · exact d.rok y h
    · rw [List.mem_singleton.mp h]
      exact ok
end
theorem takeNat_le {most : Nat} {l : Toks} {x : Nat × Toks} (h : takeNat most l = .ok x) : x.1 ≤ most := by
  cases l with
  | nil => cases h
  | cons t s =>
    obtain ⟨q, t⟩ := t
    cases t with
    | num n =>
      have h2 : (if most < n then (Except.error ⟨7, q⟩ : Except VamvsBase.Fault (Nat × Toks)) else .ok (n, s)) = .ok x := h
      split at h2
      · cases h2
      · cases h2
        omega
    | _ => cases h
theorem Out.step {β γ : Type} {A : Ads} {r : RA} {H : Hp} {E : XK} {x : Except VamvsBase.Fault β} {g : β → Except VamvsBase.Fault γ} {ok : γ → Hp → Prop} {b : β} (h : Out A r H E (x.bind g) ok) (e : x = .ok b) : Out A r H E (g b) ok := by
  subst e
  exact h
def rowX (cs : List Bts) (l : Toks) : Except VamvsBase.Fault (SRow × Toks) :=
  (takeValues cs.length [] l).bind fun v => (takeSign 58 v.2).bind fun r => (takeInt r).bind fun x => (takeSign 59 x.2).map fun m => ((⟨v.1, x.1⟩ : SRow), m)
theorem bind_as {β γ δ : Type} (x : Except VamvsBase.Fault β) (f : β → Except VamvsBase.Fault γ) (g : γ → Except VamvsBase.Fault δ) : (x.bind f).bind g = x.bind fun b => (f b).bind g := by
  cases x <;> rfl
theorem tv_first {β : Type} (c : Nat) (l : Toks) (g : List Nat × Toks → Except VamvsBase.Fault β) : (takeValues (c + 1) [] l).bind g = (takeNat 9 l).bind fun x => (takeValues c [x.1] x.2).bind g := by
  show Except.bind (Except.bind (Except.ok l) _) g = _
  exact bind_as (takeNat 9 l) _ g
theorem tv_more {β : Type} (c : Nat) {vs : List Nat} (h : 0 < vs.length) (l : Toks) (g : List Nat × Toks → Except VamvsBase.Fault β) :
    (takeValues (c + 1) vs l).bind g = (takeSign 44 l).bind fun r => (takeNat 9 r).bind fun x => (takeValues c (vs ++ [x.1]) x.2).bind g := by
  cases vs with
  | nil => cases h
  | cons v t =>
    show Except.bind (Except.bind (takeSign 44 l) _) g = _
    rw [bind_as]
    congr 1
    funext r
    exact bind_as (takeNat 9 r) _ g
def sp_row (A : Ads) : Sp := fun vs H Q E => ∃ (r : RA) (t : PTok) (l : Toks) (cs : List Bts) (rs : List SRow) (m : Nat), vs = [.ref r.R] ∧ Rd A r (t :: l) cs rs m H ∧ t.tok ≠ .last ∧ 0 < cs.length ∧
  Out A r H E (if 16 ≤ rs.length then .error ⟨4, t.place⟩ else rowX cs l) (fun b H' => Rd A r b.2 cs (rs ++ [b.1]) m H' → Q .non H')
section
variable {P : Program} {w : World} {K : PySem.W.Frag} {mg : Str → Option Value} {base : Heap} {A : Ads}
theorem ok_Reader_row (T : Txt K mg A) : Ok P w K mg base (L2.CX P w) 6 A.f_Reader_row P_Reader_row (sp_row A) := by
  obtain ⟨fd, F, b⟩ := T.F_Reader_row
  obtain ⟨fd_Reader_begin, b_Reader_begin, G_Reader_begin⟩ := ok_Reader_begin (P := P) (w := w) (base := base) T
  obtain ⟨fd_Reader_read, b_Reader_read, G_Reader_read⟩ := ok_Reader_read (P := P) (w := w) (base := base) T
  obtain ⟨fd_Reader_read_number, b_Reader_read_number, G_Reader_read_number⟩ := ok_Reader_read_number (P := P) (w := w) (base := base) T
  obtain ⟨fd_Reader_summed, b_Reader_summed, G_Reader_summed⟩ := ok_Reader_summed (P := P) (w := w) (base := base) T
  refine ⟨fd, b, F.okX sc_Reader_row (fun vs H Q E h => by
    obtain ⟨r, t, l, cs, rs, m, rfl, _⟩ := h
    rfl) (fun cdv Ar outer s H vs Q E hr h => ?_)⟩
  refine ⟨_, (pss_cons (ps_expr (pe_meth (pv 0) T.cl_Reader T.m_Reader_begin G_Reader_begin (hr.mono (by decide)) b_Reader_begin .nil (passes_call (takes_of rfl rfl rfl rfl) (fun _ _ _ _ h => h)) (pa_cons (pe_fld (pe_fld (pv 0) rfl) rfl) (pa_cons (pe_cI T.c_MOST_ROWS) pa_nil))))
    (pss_cons (ps_set (i := 1) sc_Reader_row.nd rfl (by first | exact Or.inl rfl | exact Or.inr rfl) (pe_lst (pa_cons (pe_meth (pv 0) T.cl_Reader T.m_Reader_read_number G_Reader_read_number (hr.mono (by decide)) b_Reader_read_number .nil (passes_call (takes_of rfl rfl rfl rfl) (fun _ _ _ _ h => h)) (pa_cons pe_int (pa_cons (pe_cI T.c_MOST_VALUE) pa_nil))) pa_nil)))
    (pss_cons (ps_while (passes_of rfl) (pt_cmpR op_lt (pe_callB call_len_seq (by rfl) T.n_len (by decide +kernel) (pa_cons (pv 1) pa_nil)) (pe_callB call_len_seq (by rfl) T.n_len (by decide +kernel) (pa_cons (pe_fld (pe_fld (pv 0) rfl) rfl) pa_nil)) (nomark _)) (pss_cons (ps_expr (pe_meth (pv 0) T.cl_Reader T.m_Reader_read G_Reader_read (hr.mono (by decide)) b_Reader_read .nil (passes_call (takes_of rfl rfl rfl rfl) (fun _ _ _ _ h => h)) (pa_cons (pe_cS T.c_SIGN) (pa_cons pe_str pa_nil))))
    (pss_one (ps_expr (pe_bm PySem.F.plainAttrs_list PySem.F.slot_list_append PySem.F.type_list_append mt_append (pv 1) (pa_cons (pe_meth (pv 0) T.cl_Reader T.m_Reader_read_number G_Reader_read_number (hr.mono (by decide)) b_Reader_read_number .nil (passes_call (takes_of rfl rfl rfl rfl) (fun _ _ _ _ h => h)) (pa_cons pe_int (pa_cons (pe_cI T.c_MOST_VALUE) pa_nil))) pa_nil))))))
    (pss_cons (ps_expr (pe_meth (pv 0) T.cl_Reader T.m_Reader_read G_Reader_read (hr.mono (by decide)) b_Reader_read .nil (passes_call (takes_of rfl rfl rfl rfl) (fun _ _ _ _ h => h)) (pa_cons (pe_cS T.c_SIGN) (pa_cons pe_str pa_nil))))
    (pss_cons (ps_set (i := 2) sc_Reader_row.nd rfl (by first | exact Or.inl rfl | exact Or.inr rfl) (pe_meth0 (pv 0) T.cl_Reader T.m_Reader_summed G_Reader_summed (hr.mono (by decide)) b_Reader_summed .nil (passes_call (takes_of rfl rfl rfl rfl) (fun _ _ _ _ h => h))))
    (pss_cons (ps_expr (pe_meth (pv 0) T.cl_Reader T.m_Reader_read G_Reader_read (hr.mono (by decide)) b_Reader_read .nil (passes_call (takes_of rfl rfl rfl rfl) (fun _ _ _ _ h => h)) (pa_cons (pe_cS T.c_SIGN) (pa_cons pe_str pa_nil))))
    (pss_one (ps_expr (pe_bm PySem.F.plainAttrs_list PySem.F.slot_list_append PySem.F.type_list_append mt_append (pe_fld (pe_fld (pv 0) rfl) rfl) (pa_cons (pe_tup (pa_cons (pe_callTy call_tuple_of (by rfl) T.n_tuple (by decide +kernel) (pa_cons (pv 1) pa_nil)) (pa_cons (pv 2) pa_nil))) pa_nil)))))))))), ?_⟩
  obtain ⟨r, t, l, cs, rs, m, rfl, d, nl, c0, k⟩ := h
  obtain ⟨n, h1⟩ := d.self
  obtain ⟨as, hRL, pr⟩ := d.rows
  have eln := pr_len pr
  refine ⟨_, rfl, r.R, _, _, rfl, h1, rfl, ?_⟩
  refine ⟨_, rfl, r.R, _, _, _, _, rfl, h1, T.cl_Reader, T.na_Reader_table, rfl, r.T, _, _, _, _, rfl, d.tab, T.cl_Table, T.na_Table_rows, rfl, ?_⟩
  refine ⟨r, t, l, cs, rs, m, 16, r.RL, _, rfl, d, nl, hRL, ?_⟩
  rw [List.length_map, eln]
  by_cases c : 16 ≤ rs.length
  · rw [if_pos c] at k ⊢
    exact k
  rw [if_neg c] at k ⊢
  refine fun H1 kp1 d1 => ?_
  have k1 := Out.mono k kp1
  obtain ⟨n1, h11⟩ := d1.self
  obtain ⟨c', hc'⟩ : ∃ c', cs.length = c' + 1 := ⟨cs.length - 1, by omega⟩
  unfold rowX at k1
  rw [hc', tv_first, ← takeNum_0] at k1
  -- values = [read_number(0, MOST_VALUE)]
  refine ⟨_, rfl, r.R, _, _, rfl, h11, rfl, ?_⟩
  refine ⟨r, l, cs, rs, m, 0, 9, rfl, d1, Out.bind k1 fun b hb H2 kp2 k2 d2 => ?_⟩
  have k3 := Out.step k1 hb
  rw [takeNum_0] at hb
  have hb9 := takeNat_le hb
  refine ⟨(by show 1 ≤ sizeLine; decide), fun v hv => ?_⟩
  have off := d2.off hv
  have d3 : Rd A r b.2 cs rs m (upd H2 v (.lst [.int (b.1 : Int)])) := d2.mono (Same.new hv)
  have kp3 : Kp r H1 (upd H2 v (.lst [.int (b.1 : Int)])) := kp2.trans (Kp.of (Same.new hv))
  have hv1 : H1 v = none := by
    cases z : H1 v with
    | none => rfl
    | some o => rw [kp2 v o z off.1 off.2.2.1 off.2.2.2.1 off.2.2.2.2] at hv; cases hv
  refine ⟨fun mm σ H' => ∃ (l : Toks) (vs : List Nat), σ = [some (.ref r.R), some (.ref v), none] ∧ Rd A r l cs rs m H' ∧ Kp r H1 H' ∧ H' v = some (.lst (vI vs)) ∧ 0 < vs.length ∧ vs.length ≤ cs.length ∧ (∀ d ∈ vs, d < 10) ∧ mm = cs.length - vs.length ∧
      Out A r H1 E ((takeValues (cs.length - vs.length) vs l).bind fun v => (takeSign 58 v.2).bind fun r => (takeInt r).bind fun x => (takeSign 59 x.2).map fun m => ((⟨v.1, x.1⟩ : SRow), m)) (fun b H' => Rd A r b.2 cs (rs ++ [b.1]) m H' → Q .non H'),
    ⟨_, b.2, [b.1], rfl, d3, kp3, upd_same, Nat.one_pos, c0, fun x hx => by rw [List.mem_singleton.mp hx]; omega, rfl, by rw [hc']; exact k3⟩, ?_⟩
  rintro mm σ H4 ⟨l4, vs, rfl, d4, kp4, hv4, v0, vle, dig, rfl, k4⟩
  obtain ⟨n4, h14⟩ := d4.self
  refine ⟨_, rfl, v, _, rfl, .inl (SqL.of hv4), ?_⟩
  refine ⟨_, rfl, r.R, _, _, _, _, rfl, h14, T.cl_Reader, T.na_Reader_table, rfl, r.T, _, _, _, _, rfl, d4.tab, T.cl_Table, T.na_Table_columns, rfl, r.CL, _, rfl, .inl (SqL.of d4.cols), _, _, rfl, rfl, _, rfl, ?_⟩
  have lv : (vI vs).length = vs.length := List.length_map ..
  rw [lv, List.length_map]
  by_cases c2 : vs.length < cs.length
  · refine iteT' (decide_eq_true (by omega)) ⟨_, fun _ _ h => h, ?_⟩
    rw [show cs.length - vs.length = (cs.length - vs.length - 1) + 1 from by omega, tv_more _ v0] at k4
    -- read(SIGN, ",")
    refine ⟨_, rfl, r.R, _, _, rfl, h14, rfl, ?_⟩
    refine ⟨r, l4, cs, rs, m, .sign 44, by rw [← str_comma]; rfl, .sign (by decide), (fun z => nomatch z), d4, Out.bind (Out.mono k4 kp4) fun l5 hb5 H5 kp5 k5 d5 => ?_⟩
    obtain ⟨n5, h15⟩ := d5.self
    have hv5 := kp5 v _ hv4 off.1 off.2.2.1 off.2.2.2.1 off.2.2.2.2
    refine ⟨_, rfl, .inl ⟨rfl, _, SqL.of hv5⟩, ?_⟩
    refine ⟨_, rfl, r.R, _, _, rfl, h15, rfl, ?_⟩
    rw [← takeNum_0] at k5
    refine ⟨r, l5, cs, rs, m, 0, 9, rfl, d5, Out.bind k5 fun b6 hb6 H6 kp6 k6 d6 => ?_⟩
    rw [takeNum_0] at hb6
    have k55 := Out.step (x := takeSign 44 l4) k4 hb5
    have k7 := Out.step (x := takeNat 9 l5) k55 hb6
    have hb9' := takeNat_le hb6
    have hv6 := kp6 v _ hv5 off.1 off.2.2.1 off.2.2.2.1 off.2.2.2.2
    have c4 := d.c4
    refine ⟨v, _, _, rfl, rfl, hv6, sz_lt (by rw [lv]; omega), ?_⟩
    have d7 := d6.loc (ys := vI vs ++ [.int (b6.1 : Int)]) off hv6
    refine ⟨cs.length - (vs ++ [b6.1]).length, by rw [List.length_append]; show cs.length - (vs.length + 1) < _; omega, b6.2, vs ++ [b6.1], rfl, d7, Kp.mut ((kp4.trans kp5).trans kp6) hv1, ?_, ?_, ?_, ?_, rfl, ?_⟩
    · rw [upd_same]
      show _ = some (HO.lst ((vs ++ [b6.1]).map _))
      rw [List.map_append]
      rfl
    · rw [List.length_append]
      exact Nat.succ_pos _
    · rw [List.length_append]
      exact c2
    · intro x hx
      rcases List.mem_append.mp hx with h | h
      · exact dig x h
      · rw [List.mem_singleton.mp h]
        omega
    · rw [List.length_append]
      exact k7
  · refine iteF' (decide_eq_false (by omega)) ?_
    have elen : vs.length = cs.length := by omega
    rw [elen, Nat.sub_self] at k4
    have k4' : Out A r H1 E ((takeSign 58 l4).bind fun r => (takeInt r).bind fun x => (takeSign 59 x.2).map fun m => ((⟨vs, x.1⟩ : SRow), m)) (fun b H' => Rd A r b.2 cs (rs ++ [b.1]) m H' → Q .non H') := k4
    refine ⟨_, rfl, r.R, _, _, rfl, h14, rfl, ?_⟩
    refine ⟨r, l4, cs, rs, m, .sign 58, by rw [← str_colon]; rfl, .sign (by decide), (fun z => nomatch z), d4, Out.bind (Out.mono k4' kp4) fun l5 hb5 H5 kp5 k5 d5 => ?_⟩
    obtain ⟨n5, h15⟩ := d5.self
    refine ⟨_, rfl, r.R, _, _, rfl, h15, rfl, ?_⟩
    refine ⟨r, l5, cs, rs, m, rfl, d5, Out.bind k5 fun b6 hb6 H6 kp6 k6 d6 => ?_⟩
    obtain ⟨n6, h16⟩ := d6.self
    refine ⟨_, rfl, r.R, _, _, rfl, h16, rfl, ?_⟩
    refine ⟨r, b6.2, cs, rs, m, .sign 59, by rw [← str_semi]; rfl, .sign (by decide), (fun z => nomatch z), d6, Out.map k6 fun l7 hb7 H7 kp7 k7 d7 => ?_⟩
    obtain ⟨n7, h17⟩ := d7.self
    have hv7 := ((kp5.trans kp6).trans kp7) v _ hv4 off.1 off.2.2.1 off.2.2.2.1 off.2.2.2.2
    obtain ⟨as7, hRL7, pr7⟩ := d7.rows
    -- rows.append((tuple(values), summed))
    refine ⟨_, rfl, r.R, _, _, _, _, rfl, h17, T.cl_Reader, T.na_Reader_table, rfl, r.T, _, _, _, _, rfl, d7.tab, T.cl_Table, T.na_Table_rows, rfl, .inl ⟨rfl, _, SqL.of hRL7⟩, ?_⟩
    refine ⟨_, rfl, v, _, rfl, .inl ⟨SqL.of hv7, fun q hq => ?_⟩⟩
    refine ⟨_, rfl, (by show 2 ≤ sizeLine; decide), fun p hp => ?_⟩
    have e8 : Same H7 (upd (upd H7 q (.tup (vI vs))) p (.tup [.ref q, .int b6.1])) := (Same.new hq).trans (Same.new hp)
    have d8 := d7.mono e8
    have hx : RowAt (upd (upd H7 q (.tup (vI vs))) p (.tup [.ref q, .int b6.1])) p (⟨vs, b6.1⟩ : SRow) := ⟨q, upd_same, Same.new hp _ _ upd_same⟩
    have d9 := d8.addrow (e8 _ _ hRL7) hx ⟨elen, dig⟩ (by omega)
    refine ⟨r.RL, _, _, rfl, rfl, e8 _ _ hRL7, sz_lt (by rw [List.length_map, pr_len pr7]; omega), ?_⟩
    exact k7 _ ((Kp.of e8).trans fun x o hx _ _ n3 _ => by rw [upd_ne n3]; exact hx) d9
end
end KR
end
section
set_option maxRecDepth 100000
set_option maxHeartbeats 4000000
/-! reading: asked_column, asked_columns. -/
namespace KR
open PySem PySem.Spec PyProof.Rows L2
open VamvsBase (PTok Toks RESERVED next nextWord here tokEq takeName wrong takeSign takeWord)
open Vamvsa (takeColumns takeInt takeNat takeValues takeAsked)
def AskRel (n : Nat) (ps : List Nat) (g : Nat) : Prop := g < 16 ∧ (∀ p ∈ ps, p < n) ∧ ps.Nodup ∧ ∀ i, i < 4 → (g / 2 ^ i % 2 = 1 ↔ i ∈ ps)
theorem bit_fin : ∀ g : Nat, g < 16 → ∀ i : Nat, i < 4 → (g / 2 ^ i % 2 == 1 || (decide (g + 2 ^ i < 16) && (List.range 4).all fun j => ((g + 2 ^ i) / 2 ^ j % 2 == 1) == (g / 2 ^ j % 2 == 1 || j == i))) = true := by decide +kernel
theorem bit_add (g : Nat) (hg : g < 16) (i : Nat) (hi : i < 4) (hb : g / 2 ^ i % 2 ≠ 1) : g + 2 ^ i < 16 ∧ ∀ j : Nat, j < 4 → ((g + 2 ^ i) / 2 ^ j % 2 = 1 ↔ (g / 2 ^ j % 2 = 1 ∨ j = i)) := by
  have h := bit_fin g hg i hi
  rw [beq_eq_false_iff_ne.mpr hb, Bool.false_or, Bool.and_eq_true] at h
  refine ⟨of_decide_eq_true h.1, fun j hj => ?_⟩
  have h2 := beq_iff_eq.mp (List.all_eq_true.mp h.2 j (List.mem_range.mpr hj))
  rw [← beq_iff_eq (a := (g + 2 ^ i) / 2 ^ j % 2), h2, Bool.or_eq_true, beq_iff_eq, beq_iff_eq]
theorem nodup_len : ∀ (n : Nat) (ps : List Nat), (∀ p ∈ ps, p < n) → ps.Nodup → ps.length ≤ n
  | 0, ps, h, _ => by
    cases ps with
    | nil => exact Nat.le_refl _
    | cons p r => exact absurd (h p (List.mem_cons_self)) (Nat.not_lt_zero _)
  | n + 1, ps, h, nd => by
    have l1 := nodup_len n (ps.erase n) (fun p hp => by
      have z := (List.Nodup.mem_erase_iff nd).mp hp
      have := h p z.2
      have := z.1
      omega) (nd.erase n)
    rw [List.length_erase] at l1
    split at l1 <;> omega
theorem bit_0 : ∀ i : Nat, i < 4 → 0 / 2 ^ i % 2 ≠ 1 := by decide +kernel
theorem AskRel.nil (n : Nat) : AskRel n [] 0 := ⟨by decide, fun _ h => (List.not_mem_nil h).elim, List.nodup_nil, fun i hi => ⟨fun h => absurd h (bit_0 i hi), fun h => (List.not_mem_nil h).elim⟩⟩
theorem AskRel.add {n : Nat} {ps : List Nat} {g i : Nat} (h : AskRel n ps g) (h4 : n ≤ 4) (hi : i < n) (hb : g / 2 ^ i % 2 ≠ 1) : AskRel n (ps ++ [i]) (g + 2 ^ i) := by
  obtain ⟨h1, h2, h3, h5⟩ := h
  obtain ⟨b1, b2⟩ := bit_add g h1 i (by omega) hb
  have ni : i ∉ ps := fun z => hb ((h5 i (by omega)).mpr z)
  refine ⟨b1, ?_, ?_, fun j hj => ?_⟩
  · intro p hp
    rcases List.mem_append.mp hp with z | z
    · exact h2 p z
    · rw [List.mem_singleton.mp z]
      exact hi
  · refine List.nodup_append.mpr ⟨h3, List.nodup_cons.mpr ⟨fun h => (List.not_mem_nil h).elim, List.nodup_nil⟩, fun x hx y hy z => ?_⟩
    rw [List.mem_singleton.mp hy] at z
    rw [z] at hx
    exact ni hx
  · rw [b2 j hj, h5 j hj, List.mem_append, List.mem_singleton]
theorem AskRel.len {n : Nat} {ps : List Nat} {g : Nat} (h : AskRel n ps g) : ps.length ≤ n := by
  exact nodup_len n ps h.2.1 h.2.2.1
def takeAskCol (cs : List Bts) (g : Nat) (l : Toks) : Except VamvsBase.Fault (Nat × Toks) := (takeName l).bind fun x => match cs.findIdx? fun c => c == x.1.name with
    | none => .error ⟨8, x.1.place⟩
    | some i => if g / 2 ^ i % 2 = 1 then .error ⟨6, x.1.place⟩ else .ok (i, x.2)
theorem takeAsked_eq (cs : List Bts) (n g : Nat) (l : Toks) : takeAsked cs (n + 1) g l = (takeAskCol cs g l).bind fun y => if next (.sign 44) y.2 = true then takeAsked cs n (g + 2 ^ y.1) (y.2.drop 1) else .ok (g + 2 ^ y.1, y.2) := by
  show (takeName l).bind _ = ((takeName l).bind _).bind _
  cases takeName l with
  | error e => rfl
  | ok x =>
    show (match cs.findIdx? fun c => c == x.1.name with
      | none => _
      | some i => _) = Except.bind (match cs.findIdx? fun c => c == x.1.name with
      | none => _
      | some i => _) _
    cases cs.findIdx? fun c => c == x.1.name with
    | none => rfl
    | some i =>
      show (if g / 2 ^ i % 2 = 1 then _ else _) = Except.bind (if g / 2 ^ i % 2 = 1 then _ else _) _
      split <;> rfl
theorem ix_none {cs : List Bts} {b : Bts} (h : (cs.findIdx? fun c => c == b) = none) : cs.contains b = false := by
  rw [List.findIdx?_eq_none_iff] at h
  refine Bool.eq_false_iff.mpr fun z => ?_
  have := h b (List.contains_iff_mem.mp z)
  rw [beq_self_eq_true] at this
  cases this
theorem ix_some {cs : List Bts} {b : Bts} {i : Nat} (h : (cs.findIdx? fun c => c == b) = some i) : cs[i]? = some b ∧ ∀ j : Nat, j < i → cs[j]? ≠ some b := by
  rw [List.findIdx?_eq_some_iff_getElem] at h
  obtain ⟨lt, h1, h2⟩ := h
  refine ⟨?_, fun j hj z => ?_⟩
  · rw [List.getElem?_eq_getElem lt, beq_iff_eq.mp h1]
  · have lt2 : j < cs.length := by omega
    rw [List.getElem?_eq_getElem lt2] at z
    have := h2 j hj
    rw [Option.some.inj z, beq_self_eq_true] at this
    exact this rfl
theorem in_places {cs : List Bts} {ps : List Nat} {b : Bts} {i : Nat} (nd : cs.Nodup) (hp : ∀ p ∈ ps, p < cs.length) (h : cs[i]? = some b) : (ps.map fun p => cs.getD p []).contains b = decide (i ∈ ps) := by
  rw [Bool.eq_iff_iff, List.contains_iff_mem, decide_eq_true_iff, List.mem_map]
  constructor
  · rintro ⟨p, h1, h2⟩
    have lt := hp p h1
    rw [List.getD_eq_getElem?_getD, List.getElem?_eq_getElem lt] at h2
    have h3 : cs[p]? = some b := by rw [List.getElem?_eq_getElem lt]; exact congrArg some h2
    rw [← nd_ix nd h3 h]
    exact h1
  · intro z
    exact ⟨i, z, by rw [List.getD_eq_getElem?_getD, h]; rfl⟩
theorem not_places {cs : List Bts} {ps : List Nat} {b : Bts} (hp : ∀ p ∈ ps, p < cs.length) (h : cs.contains b = false) : (ps.map fun p => cs.getD p []).contains b = false := by
  refine Bool.eq_false_iff.mpr fun z => ?_
  obtain ⟨p, h1, h2⟩ := List.mem_map.mp (List.contains_iff_mem.mp z)
  have lt := hp p h1
  rw [List.getD_eq_getElem?_getD, List.getElem?_eq_getElem lt] at h2
  have h3 : cs[p] = b := h2
  rw [List.contains_iff_mem.mpr (by rw [← h3]; exact List.getElem_mem lt)] at h
  cases h
def sp_asked_column (A : Ads) : Sp := fun vs H Q E => ∃ (r : RA) (l : Toks) (cs : List Bts) (rs : List SRow) (m : Nat) (a : Addr) (ps : List Nat) (g : Nat), vs = [.ref r.R, .ref a] ∧ Rd A r l cs rs m H ∧ Off r a ∧ H a = some (.lst (vI ps)) ∧ AskRel cs.length ps g ∧
  Out A r H E (takeAskCol cs g l) (fun b H' => Rd A r b.2 cs rs m H' → b.1 < cs.length → g / 2 ^ b.1 % 2 ≠ 1 → Q (.int (b.1 : Int)) H')
section
variable {P : Program} {w : World} {K : PySem.W.Frag} {mg : Str → Option Value} {base : Heap} {A : Ads}
theorem ok_Reader_asked_column (T : Txt K mg A) : Ok P w K mg base (L2.CX P w) 5 A.f_Reader_asked_column P_Reader_asked_column (sp_asked_column A) := by
  obtain ⟨fd, F, b⟩ := T.F_Reader_asked_column
  obtain ⟨fd_Reader_next_name, b_Reader_next_name, G_Reader_next_name⟩ := ok_Reader_next_name (P := P) (w := w) (base := base) T
  obtain ⟨fd_Reader_take, b_Reader_take, G_Reader_take⟩ := ok_Reader_take (P := P) (w := w) (base := base) T
  obtain ⟨fd_Reader_want, b_Reader_want, G_Reader_want⟩ := ok_Reader_want (P := P) (w := w) (base := base) T
  refine ⟨fd, b, F.okX sc_Reader_asked_column (fun vs H Q E h => by
    obtain ⟨r, l, cs, rs, m, a, ps, g, rfl, _⟩ := h
    rfl) (fun cdv Ar outer s H vs Q E hr h => ?_)⟩
  refine ⟨_, (pss_cons (ps_set (i := 2) sc_Reader_asked_column.nd rfl (by first | exact Or.inl rfl | exact Or.inr rfl) (pe_meth0 (pv 0) T.cl_Reader T.m_Reader_next_name G_Reader_next_name (hr.mono (by decide)) b_Reader_next_name .nil (passes_call (takes_of rfl rfl rfl rfl) (fun _ _ _ _ h => h))))
    (pss_cons (ps_expr (pe_meth (pv 0) T.cl_Reader T.m_Reader_want G_Reader_want (hr.mono (by decide)) b_Reader_want .nil (passes_call (takes_of rfl rfl rfl rfl) (fun _ _ _ _ h => h)) (pa_cons (pe_cmpR op_notIn_seq (pv 2) (pe_lc (own := [("place", 3)]) rfl sc_Reader_asked_column.nd (pi_list (pv 1)) (blkOk_by (own := [("place", 3)]) (N := N_Reader_asked_column) (sc := defScope s_Reader_asked_column) (by decide +kernel)) (fun _ _ _ _ _ => (pg_name (i := 3) sc_Reader_asked_column.nd rfl (by first | exact Or.inl rfl | exact Or.inr rfl))) (fun _ _ _ _ _ => pts_nil) (fun _ _ _ _ _ => (pe_ix (ix_listK (K := K)) (pe_fldK (K := K) (pe_fldK (K := K) (pv 0) rfl) rfl) (pv 3) (fun _ _ => rfl)))) rfl) (pa_cons (pe_cI T.c_TWICE) pa_nil))))
    (pss_cons (ps_expr (pe_meth (pv 0) T.cl_Reader T.m_Reader_want G_Reader_want (hr.mono (by decide)) b_Reader_want .nil (passes_call (takes_of rfl rfl rfl rfl) (fun _ _ _ _ h => h)) (pa_cons (pe_cmpR op_in_seq (pv 2) (pe_fld (pe_fld (pv 0) rfl) rfl) rfl) (pa_cons (pe_cI T.c_NO_COLUMN) pa_nil))))
    (pss_one (ps_ret (pe_bm PySem.F.plainAttrs_list PySem.F.slot_list_index PySem.F.type_list_index mt_index (pe_fld (pe_fld (pv 0) rfl) rfl) (pa_cons (pe_meth0 (pv 0) T.cl_Reader T.m_Reader_take G_Reader_take (hr.mono (by decide)) b_Reader_take .nil pass0) pa_nil))))))), ?_⟩
  obtain ⟨r, l, cs, rs, m, a, ps, g, rfl, d, off, ha, rel, k⟩ := h
  obtain ⟨n, h1⟩ := d.self
  refine ⟨_, rfl, r.R, _, _, rfl, h1, rfl, ?_⟩
  refine ⟨r, l, cs, rs, m, rfl, d, Out.bind k fun b hb H1 kp k1 d1 => ?_⟩
  obtain ⟨n1, h11⟩ := d1.self
  have ha1 := kp a _ ha off.1 off.2.2.1 off.2.2.2.1 off.2.2.2.2
  obtain ⟨q, nm, rfl, e2⟩ := takeName_shape hb
  have hpl : b.1.place = here (⟨q, .name nm⟩ :: b.2) := by rw [e2]; rfl
  have enm : nm = b.1.name := by rw [e2]
  have rl := rel.len
  have c4 := d.c4
  refine ⟨_, rfl, r.R, _, _, rfl, h11, rfl, ?_⟩
  refine ⟨_, rfl, ?_⟩
  refine ⟨_, rfl, a, rfl, ⟨_, SqL.of ha1⟩, fun D hD => ?_⟩
  refine lc_list (K := K) (a := a) (xs := vI ps) (fun i H' => Same H1 H' ∧ H' D = some (.lst ((ps.take i).map fun p => nmV (cs.getD p [])))) ⟨Same.new hD, upd_same⟩ (fun i H' _ h => SqL.of (h.1 _ _ ha1)) ?_ ?_
  · rintro i x H' hi ⟨e, hD'⟩
    obtain ⟨p, hp, rfl⟩ := map_at hi
    have plt := rel.2.1 p (List.mem_of_getElem? hp)
    have dd := d1.mono e
    obtain ⟨n2, h12⟩ := dd.self
    have hv : (cs.map nmV)[p]? = some (nmV (cs.getD p [])) := by
      rw [List.getElem?_map, List.getD_eq_getElem?_getD, List.getElem?_eq_getElem plt]
      rfl
    refine ⟨rfl, ?_⟩
    show tYes _ _ _
    refine ⟨_, rfl, r.R, _, _, _, _, rfl, h12, T.cl_Reader, T.na_Reader_table, rfl, r.T, _, _, _, _, rfl, dd.tab, T.cl_Table, T.na_Table_columns, rfl, ?_⟩
    refine ⟨_, rfl, r.CL, _, _, _, rfl, rfl, SqL.of dd.cols, at_of rfl hv, _, hD', ?_, Same.mut e hD, ?_⟩
    · refine sz_lt ?_
      rw [List.length_map, List.length_take]
      omega
    · rw [upd_same, List.take_add_one, hp, List.map_append]
      rfl
  rintro H2 ⟨e2', hD2⟩
  rw [show (vI ps).length = ps.length from List.length_map .., List.take_length] at hD2
  have d2 := d1.mono e2'
  obtain ⟨n2, h12⟩ := d2.self
  have k2 := Out.mono k1 (Kp.of e2')
  have eD : (ps.map fun p => nmV (cs.getD p [])) = (ps.map fun p => cs.getD p []).map nmV := by rw [List.map_map]; rfl
  rw [eD] at hD2
  refine ⟨D, _, rfl, .inl (SqL.of hD2), rfl, flat_names _, ?_⟩
  refine ⟨r, _, cs, rs, m, !inV (nmV b.1.name) ((ps.map fun p => cs.getD p []).map nmV), 6, rfl, d2, fun hi => ?_, fun hi => ?_⟩
  · rw [in_names, Bool.not_eq_true'] at hi
    -- want(name in columns, NO_COLUMN)
    refine ⟨_, rfl, r.R, _, _, rfl, h12, rfl, ?_⟩
    refine ⟨_, rfl, _, rfl, r.R, _, _, _, _, rfl, h12, T.cl_Reader, T.na_Reader_table, rfl, r.T, _, _, _, _, rfl, d2.tab, T.cl_Table, T.na_Table_columns, rfl, r.CL, _, rfl, .inl (SqL.of d2.cols), rfl, flat_names cs, ?_⟩
    refine ⟨r, _, cs, rs, m, inV (nmV b.1.name) (cs.map nmV), 8, rfl, d2, fun hj => ?_, fun hj => ?_⟩
    · rw [in_names] at hj
      cases hx : cs.findIdx? fun c => c == b.1.name with
      | none =>
        rw [ix_none hx] at hj
        cases hj
      | some i =>
        obtain ⟨i1, i2⟩ := ix_some hx
        have ilt : i < cs.length := (List.getElem?_eq_some_iff.mp i1).1
        have nb : g / 2 ^ i % 2 ≠ 1 := fun z => by
          rw [in_places d.nd rel.2.1 i1, decide_eq_true ((rel.2.2.2 i (by omega)).mp z)] at hi
          cases hi
        rw [hx] at k2
        have k3 : Out A r H2 E (.ok (i, b.2)) (fun b H' => Rd A r b.2 cs rs m H' → b.1 < cs.length → g / 2 ^ b.1 % 2 ≠ 1 → Q (.int (b.1 : Int)) H') := by
          have e : (if g / 2 ^ i % 2 = 1 then (Except.error ⟨6, b.1.place⟩ : Except VamvsBase.Fault (Nat × Toks)) else .ok (i, b.2)) = .ok (i, b.2) := if_neg nb
          exact (show Out A r H2 E (if g / 2 ^ i % 2 = 1 then (Except.error ⟨6, b.1.place⟩ : Except VamvsBase.Fault (Nat × Toks)) else .ok (i, b.2)) _ from k2) |> fun z => by rwa [e] at z
        refine ⟨_, rfl, r.R, _, _, _, _, rfl, h12, T.cl_Reader, T.na_Reader_table, rfl, r.T, _, _, _, _, rfl, d2.tab, T.cl_Table, T.na_Table_columns, rfl, .inl ⟨rfl, _, SqL.of d2.cols⟩, ?_⟩
        refine ⟨_, rfl, r.R, _, _, rfl, h12, rfl, ?_⟩
        refine ⟨r, _, b.2, cs, rs, m, rfl, d2, (fun z => nomatch z), fun H3 kp3 d3 => ?_⟩
        refine ⟨r.CL, cs.map nmV, nmV nm, i, nmV b.1.name, rfl, rfl, SqL.of d3.cols, rfl, flat_names cs, map_at' i1, ?_, fun mm z' hm hz => ?_, ?_⟩
        · rw [enm]
          exact beq_self_eq_true (nameS b.1.name)
        · obtain ⟨c, hc, rfl⟩ := map_at hz
          rw [enm]
          refine beq_eq_false_iff_ne.mpr fun z => i2 mm hm ?_
          rw [hc, nameS_inj z]
        · exact k3 H3 kp3 d3 ilt nb
    · rw [in_names] at hj
      cases hx : cs.findIdx? fun c => c == b.1.name with
      | some i =>
        have := (ix_some hx).1
        rw [List.contains_iff_mem.mpr (List.mem_of_getElem? this)] at hj
        cases hj
      | none =>
        rw [hx, hpl] at k2
        exact k2
  · rw [in_names, Bool.not_eq_false'] at hi
    cases hx : cs.findIdx? fun c => c == b.1.name with
    | none =>
      rw [not_places rel.2.1 (ix_none hx)] at hi
      cases hi
    | some i =>
      obtain ⟨i1, i2⟩ := ix_some hx
      have ilt : i < cs.length := (List.getElem?_eq_some_iff.mp i1).1
      rw [in_places d.nd rel.2.1 i1] at hi
      have yb := (rel.2.2.2 i (by omega)).mpr (of_decide_eq_true hi)
      rw [hx, hpl] at k2
      have e : (if g / 2 ^ i % 2 = 1 then (Except.error ⟨6, here (⟨q, .name nm⟩ :: b.2)⟩ : Except VamvsBase.Fault (Nat × Toks)) else .ok (i, b.2)) = .error ⟨6, here (⟨q, .name nm⟩ :: b.2)⟩ := if_pos yb
      exact (show Out A r H2 E (if g / 2 ^ i % 2 = 1 then (Except.error ⟨6, here (⟨q, .name nm⟩ :: b.2)⟩ : Except VamvsBase.Fault (Nat × Toks)) else .ok (i, b.2)) _ from k2) |> fun z => by rwa [e] at z
end
end KR
end
section
set_option maxRecDepth 100000
set_option maxHeartbeats 4000000
/-! reading: asked_columns, question. -/
namespace KR
open PySem PySem.Spec PyProof.Rows L2
open VamvsBase (PTok Toks RESERVED next nextWord here tokEq takeName wrong takeSign takeWord)
open Vamvsa (takeColumns takeInt takeNat takeValues takeAsked takeTimes takeAsk)
theorem takeAskCol_len {cs : List Bts} {g : Nat} {l : Toks} {x : Nat × Toks} (h : takeAskCol cs g l = .ok x) : x.2.length < l.length := by
  unfold takeAskCol at h
  cases e : takeName l with
  | error f => rw [e] at h; cases h
  | ok y =>
    rw [e] at h
    obtain ⟨q, b, e1, e2⟩ := takeName_shape e
    have h2 : (match cs.findIdx? fun c => c == y.1.name with
      | none => (.error ⟨8, y.1.place⟩ : Except VamvsBase.Fault (Nat × Toks))
      | some i => if g / 2 ^ i % 2 = 1 then .error ⟨6, y.1.place⟩ else .ok (i, y.2)) = .ok x := h
    cases z : cs.findIdx? fun c => c == y.1.name with
    | none => rw [z] at h2; cases h2
    | some i =>
      rw [z] at h2
      have h3 : (if g / 2 ^ i % 2 = 1 then (.error ⟨6, y.1.place⟩ : Except VamvsBase.Fault (Nat × Toks)) else .ok (i, y.2)) = .ok x := h2
      split at h3
      · cases h3
      · cases h3
        rw [e1]
        exact Nat.lt_succ_self _
theorem Rd.addask {A : Ads} {r : RA} {l : Toks} {cs : List Bts} {rs : List SRow} {m : Nat} {H : Hp} (d : Rd A r l cs rs m H) {qs : List V} {v : V} (hq : H r.QL = some (.lst qs)) (lt : m < 8) :
    Rd A r l cs rs (m + 1) (upd H r.QL (.lst (qs ++ [v]))) := by
  obtain ⟨n, toks, h1, ⟨as0, h2, pa⟩, h3⟩ := d.pos
  obtain ⟨as2, hRL2, pr⟩ := d.rows
  obtain ⟨qs2, hQ, hQ2⟩ := d.asks
  have eq2 : qs2 = qs := by
    rw [hq] at hQ
    exact (HO.lst.inj (Option.some.inj hQ)).symm
  have mv : ∀ x u, H x = some u → (∀ xs, u ≠ .lst xs) → upd H r.QL (.lst (qs ++ [v])) x = some u := fun x u hx hn => by
    rw [upd_ne fun z => by rw [z, hq] at hx; exact hn _ (Option.some.inj hx).symm]
    exact hx
  exact ⟨⟨n, toks, mv _ _ h1 fun _ z => (nomatch z), ⟨as0, (upd_ne d.tk.2.2).trans h2, pr_imp pa fun _ _ z => mv _ _ z fun _ z => (nomatch z)⟩, h3⟩, d.last, mv _ _ d.tab fun _ z => (nomatch z), (upd_ne d.ne2).trans d.cols,
    ⟨as2, (upd_ne d.ne3).trans hRL2, pr_imp pr fun _ _ ⟨u, u1, u2⟩ => ⟨u, mv _ _ u1 fun _ z => (nomatch z), mv _ _ u2 fun _ z => (nomatch z)⟩⟩, ⟨qs ++ [v], upd_same, by rw [List.length_append, ← eq2, hQ2]; rfl⟩, d.ne1, d.ne2, d.ne3, d.c4, d.nd, d.r16, lt, d.rok, d.tk⟩
def sp_asked_columns (A : Ads) : Sp := fun vs H Q E => ∃ (r : RA) (l : Toks) (cs : List Bts) (rs : List SRow) (m : Nat), vs = [.ref r.R] ∧ Rd A r l cs rs m H ∧
  Out A r H E (if nextWord "times" l = true ∨ next (.sign 59) l = true then .ok (0, l) else takeAsked cs (l.length + 1) 0 l) (fun b H' => ∀ p, Rd A r b.2 cs rs m H' → Q (.ref p) H')
def sp_question (A : Ads) : Sp := fun vs H Q E => ∃ (r : RA) (t : PTok) (l : Toks) (cs : List Bts) (rs : List SRow) (m : Nat), vs = [.ref r.R] ∧ Rd A r (t :: l) cs rs m H ∧ t.tok ≠ .last ∧
  Out A r H E (if 8 ≤ m then .error ⟨4, t.place⟩ else takeAsk cs l) (fun b H' => Rd A r b.2 cs rs (m + 1) H' → Q .non H')
section
variable {P : Program} {w : World} {K : PySem.W.Frag} {mg : Str → Option Value} {base : Heap} {A : Ads}
theorem ok_Reader_asked_columns (T : Txt K mg A) : Ok P w K mg base (L2.CX P w) 6 A.f_Reader_asked_columns P_Reader_asked_columns (sp_asked_columns A) := by
  obtain ⟨fd, F, b⟩ := T.F_Reader_asked_columns
  obtain ⟨fd_Reader_asked_column, b_Reader_asked_column, G_Reader_asked_column⟩ := ok_Reader_asked_column (P := P) (w := w) (base := base) T
  obtain ⟨fd_Reader_comes, b_Reader_comes, G_Reader_comes⟩ := ok_Reader_comes (P := P) (w := w) (base := base) T
  obtain ⟨fd_Reader_take, b_Reader_take, G_Reader_take⟩ := ok_Reader_take (P := P) (w := w) (base := base) T
  refine ⟨fd, b, F.okX sc_Reader_asked_columns (fun vs H Q E h => by
    obtain ⟨r, l, cs, rs, m, rfl, _⟩ := h
    rfl) (fun cdv Ar outer s H vs Q E hr h => ?_)⟩
  refine ⟨_, (pss_cons (ps_if (PW.pt (pw_or (pt_val (pe_meth (pv 0) T.cl_Reader T.m_Reader_comes G_Reader_comes (hr.mono (by decide)) b_Reader_comes .nil pass0 (pa_cons (pe_cS T.c_WORD) (pa_cons pe_str pa_nil)))) (pw_or1 (pt_val (pe_meth (pv 0) T.cl_Reader T.m_Reader_comes G_Reader_comes (hr.mono (by decide)) b_Reader_comes .nil pass0 (pa_cons (pe_cS T.c_SIGN) (pa_cons pe_str pa_nil))))))) (pss_one (ps_ret (pe_lst pa_nil))) pss_nil)
    (pss_cons (ps_set (i := 1) sc_Reader_asked_columns.nd rfl (by first | exact Or.inl rfl | exact Or.inr rfl) (pe_lst (pa_cons (pe_meth (pv 0) T.cl_Reader T.m_Reader_asked_column G_Reader_asked_column (hr.mono (by decide)) b_Reader_asked_column .nil (passes_call (takes_of rfl rfl rfl rfl) (fun _ _ _ _ h => h)) (pa_cons (pe_lst pa_nil) pa_nil)) pa_nil)))
    (pss_cons (ps_while (passes_of rfl) (pt_val (pe_meth (pv 0) T.cl_Reader T.m_Reader_comes G_Reader_comes (hr.mono (by decide)) b_Reader_comes .nil pass0 (pa_cons (pe_cS T.c_SIGN) (pa_cons pe_str pa_nil)))) (pss_cons (ps_expr (pe_meth0 (pv 0) T.cl_Reader T.m_Reader_take G_Reader_take (hr.mono (by decide)) b_Reader_take .nil pass0))
    (pss_one (ps_expr (pe_bm PySem.F.plainAttrs_list PySem.F.slot_list_append PySem.F.type_list_append mt_append (pv 1) (pa_cons (pe_meth (pv 0) T.cl_Reader T.m_Reader_asked_column G_Reader_asked_column (hr.mono (by decide)) b_Reader_asked_column .nil (passes_call (takes_of rfl rfl rfl rfl) (fun _ _ _ _ h => h)) (pa_cons (pv 1) pa_nil)) pa_nil))))))
    (pss_one (ps_ret (pv 1)))))), ?_⟩
  obtain ⟨r, l, cs, rs, m, rfl, d, k⟩ := h
  obtain ⟨n, h1⟩ := d.self
  refine ⟨_, rfl, r.R, _, _, rfl, h1, rfl, ?_⟩
  refine ⟨r, l, cs, rs, m, .name (VamvsBase.word "times"), by rw [← str_word res_times, ← str_times]; rfl, .word res_times, d, fun H1 e1 => ⟨_, rfl, ?_⟩⟩
  have d1 := d.mono e1
  obtain ⟨n1, h11⟩ := d1.self
  have k1 := Out.mono k (Kp.of e1)
  by_cases c1 : nextWord "times" l = true
  · refine iteT' c1 ?_
    refine iteT ?_
    rw [if_pos (.inl c1)] at k1
    refine ⟨(by show 0 ≤ sizeLine; decide), fun p hp => ?_⟩
    exact k1 _ (Kp.of (Same.new hp)) p (d1.mono (Same.new hp))
  refine iteF' (Bool.eq_false_iff.mpr c1) ?_
  refine ⟨_, rfl, r.R, _, _, rfl, h11, rfl, ?_⟩
  refine ⟨r, l, cs, rs, m, .sign 59, by rw [← str_semi]; rfl, .sign (by decide), d1, fun H2 e2 => ⟨_, rfl, ?_⟩⟩
  have d2 := d1.mono e2
  obtain ⟨n2, h12⟩ := d2.self
  have k2 := Out.mono k1 (Kp.of e2)
  by_cases c2 : next (.sign 59) l = true
  · refine iteT' c2 ?_
    rw [if_pos (.inr c2)] at k2
    refine ⟨(by show 0 ≤ sizeLine; decide), fun p hp => ?_⟩
    exact k2 _ (Kp.of (Same.new hp)) p (d2.mono (Same.new hp))
  refine iteF' (Bool.eq_false_iff.mpr c2) ?_
  rw [if_neg (by rintro (z | z); exact c1 z; exact c2 z), takeAsked_eq] at k2
  -- found = [asked_column([])]
  refine ⟨_, rfl, r.R, _, _, rfl, h12, rfl, ?_⟩
  refine ⟨(by show 0 ≤ sizeLine; decide), fun z hz => ?_⟩
  refine ⟨r, l, cs, rs, m, z, [], 0, rfl, d2.mono (Same.new hz), d2.off hz, upd_same, AskRel.nil _, Out.bind (Out.mono k2 (Kp.of (Same.new hz))) fun b hb H3 kp3 k3 d3 blt bnb => ?_⟩
  refine ⟨(by show 1 ≤ sizeLine; decide), fun v hv => ?_⟩
  have off := d3.off hv
  have kp23 : Kp r H2 H3 := (Kp.of (Same.new hz)).trans kp3
  have hv2 : H2 v = none := by
    cases y : H2 v with
    | none => rfl
    | some o => rw [kp23 v o y off.1 off.2.2.1 off.2.2.2.1 off.2.2.2.2] at hv; cases hv
  have c4 := d.c4
  have ks := Out.step (x := takeAskCol cs 0 l) k2 hb
  refine ⟨fun mm σ H' => ∃ (l : Toks) (ps : List Nat) (g f : Nat), σ = [some (.ref r.R), some (.ref v)] ∧ Rd A r l cs rs m H' ∧ Kp r H2 H' ∧ H' v = some (.lst (vI ps)) ∧ AskRel cs.length ps g ∧ mm = l.length ∧ l.length ≤ f ∧
      Out A r H2 E (if next (.sign 44) l = true then takeAsked cs f g (l.drop 1) else .ok (g, l)) (fun b H' => ∀ p, Rd A r b.2 cs rs m H' → Q (.ref p) H'),
    ⟨_, b.2, [b.1], 0 + 2 ^ b.1, l.length, rfl, d3.mono (Same.new hv), kp23.trans (Kp.of (Same.new hv)), upd_same, (AskRel.nil _).add c4 blt bnb, rfl, Nat.le_of_lt (takeAskCol_len hb), ks⟩, ?_⟩
  rintro mm σ H4 ⟨l4, ps, g, f, rfl, d4, kp4, hv4, rel, rfl, hf, k4⟩
  obtain ⟨n4, h14⟩ := d4.self
  refine ⟨_, rfl, r.R, _, _, rfl, h14, rfl, ?_⟩
  refine ⟨r, l4, cs, rs, m, .sign 44, by rw [← str_comma]; rfl, .sign (by decide), d4, fun H5 e5 => ⟨_, rfl, ?_⟩⟩
  have d5 := d4.mono e5
  obtain ⟨n5, h15⟩ := d5.self
  have kp5 := kp4.trans (Kp.of (r := r) e5)
  by_cases c : next (.sign 44) l4 = true
  · refine iteT' c ⟨_, fun _ _ h => h, ?_⟩
    rw [if_pos c] at k4
    obtain ⟨t, l6, rfl⟩ := d5.head
    refine ⟨_, rfl, r.R, _, _, rfl, h15, rfl, ?_⟩
    refine ⟨r, t, l6, cs, rs, m, rfl, d5, next_head c (fun z => nomatch z), fun H6 kp6 d6 => ?_⟩
    obtain ⟨n6, h16⟩ := d6.self
    obtain ⟨f2, rfl⟩ : ∃ f2, f = f2 + 1 := ⟨f - 1, by rw [List.length_cons] at hf; omega⟩
    have k6 : Out A r H2 E (takeAsked cs (f2 + 1) g l6) _ := k4
    rw [takeAsked_eq] at k6
    have hv6 := kp6 v _ (e5 _ _ hv4) off.1 off.2.2.1 off.2.2.2.1 off.2.2.2.2
    refine ⟨_, rfl, .inl ⟨rfl, _, SqL.of hv6⟩, ?_⟩
    refine ⟨_, rfl, r.R, _, _, rfl, h16, rfl, ?_⟩
    refine ⟨_, rfl, r, l6, cs, rs, m, v, ps, g, rfl, d6, off, hv6, rel, Out.bind (Out.mono k6 (kp5.trans kp6)) fun b7 hb7 H7 kp7 k7 d7 blt7 bnb7 => ?_⟩
    have hv7 := kp7 v _ hv6 off.1 off.2.2.1 off.2.2.2.1 off.2.2.2.2
    have rl := rel.len
    refine ⟨v, _, _, rfl, rfl, hv7, sz_lt (by rw [show (vI ps).length = ps.length from List.length_map ..]; omega), ?_⟩
    have hlen := takeAskCol_len hb7
    have ks7 := Out.step (x := takeAskCol cs g l6) k6 hb7
    rw [List.length_cons] at hf
    refine ⟨b7.2.length, by rw [List.length_cons]; omega, b7.2, ps ++ [b7.1], g + 2 ^ b7.1, f2, rfl, d7.loc off hv7, Kp.mut ((kp5.trans kp6).trans kp7) hv2, ?_, rel.add c4 blt7 bnb7, rfl, by omega, ks7⟩
    rw [upd_same]
    show _ = some (HO.lst ((ps ++ [b7.1]).map _))
    rw [List.map_append]
    rfl
  · refine iteF' (Bool.eq_false_iff.mpr c) ?_
    rw [if_neg c] at k4
    refine ⟨_, rfl, ?_⟩
    exact k4 H5 kp5 v d5
theorem ok_Reader_question (T : Txt K mg A) : Ok P w K mg base (L2.CX P w) 7 A.f_Reader_question P_Reader_question (sp_question A) := by
  obtain ⟨fd, F, b⟩ := T.F_Reader_question
  obtain ⟨fd_Reader_asked_columns, b_Reader_asked_columns, G_Reader_asked_columns⟩ := ok_Reader_asked_columns (P := P) (w := w) (base := base) T
  obtain ⟨fd_Reader_begin, b_Reader_begin, G_Reader_begin⟩ := ok_Reader_begin (P := P) (w := w) (base := base) T
  obtain ⟨fd_Reader_comes, b_Reader_comes, G_Reader_comes⟩ := ok_Reader_comes (P := P) (w := w) (base := base) T
  obtain ⟨fd_Reader_read, b_Reader_read, G_Reader_read⟩ := ok_Reader_read (P := P) (w := w) (base := base) T
  obtain ⟨fd_Reader_read_number, b_Reader_read_number, G_Reader_read_number⟩ := ok_Reader_read_number (P := P) (w := w) (base := base) T
  obtain ⟨fd_Reader_take, b_Reader_take, G_Reader_take⟩ := ok_Reader_take (P := P) (w := w) (base := base) T
  refine ⟨fd, b, F.okX sc_Reader_question (fun vs H Q E h => by
    obtain ⟨r, t, l, cs, rs, m, rfl, _⟩ := h
    rfl) (fun cdv Ar outer s H vs Q E hr h => ?_)⟩
  refine ⟨_, (pss_cons (ps_expr (pe_meth (pv 0) T.cl_Reader T.m_Reader_begin G_Reader_begin (hr.mono (by decide)) b_Reader_begin .nil (passes_call (takes_of rfl rfl rfl rfl) (fun _ _ _ _ h => h)) (pa_cons (pe_fld (pe_fld (pv 0) rfl) rfl) (pa_cons (pe_cI T.c_MOST_QUESTIONS) pa_nil))))
    (pss_cons (ps_set (i := 1) sc_Reader_question.nd rfl (by first | exact Or.inl rfl | exact Or.inr rfl) (pe_meth0 (pv 0) T.cl_Reader T.m_Reader_asked_columns G_Reader_asked_columns (hr.mono (by decide)) b_Reader_asked_columns .nil (passes_call (takes_of rfl rfl rfl rfl) (fun _ _ _ _ h => h))))
    (pss_cons (ps_set (i := 2) sc_Reader_question.nd rfl (by first | exact Or.inl rfl | exact Or.inr rfl) pe_int)
    (pss_cons (ps_if (pt_val (pe_meth (pv 0) T.cl_Reader T.m_Reader_comes G_Reader_comes (hr.mono (by decide)) b_Reader_comes .nil pass0 (pa_cons (pe_cS T.c_WORD) (pa_cons pe_str pa_nil)))) (pss_cons (ps_expr (pe_meth0 (pv 0) T.cl_Reader T.m_Reader_take G_Reader_take (hr.mono (by decide)) b_Reader_take .nil pass0))
    (pss_one (ps_set (i := 2) sc_Reader_question.nd rfl (by first | exact Or.inl rfl | exact Or.inr rfl) (pe_meth (pv 0) T.cl_Reader T.m_Reader_read_number G_Reader_read_number (hr.mono (by decide)) b_Reader_read_number .nil (passes_call (takes_of rfl rfl rfl rfl) (fun _ _ _ _ h => h)) (pa_cons pe_int (pa_cons (pe_cI T.c_MOST_TIMES) pa_nil)))))) pss_nil)
    (pss_cons (ps_expr (pe_meth (pv 0) T.cl_Reader T.m_Reader_read G_Reader_read (hr.mono (by decide)) b_Reader_read .nil (passes_call (takes_of rfl rfl rfl rfl) (fun _ _ _ _ h => h)) (pa_cons (pe_cS T.c_SIGN) (pa_cons pe_str pa_nil))))
    (pss_one (ps_expr (pe_bm PySem.F.plainAttrs_list PySem.F.slot_list_append PySem.F.type_list_append mt_append (pe_fld (pe_fld (pv 0) rfl) rfl) (pa_cons (pe_tup (pa_cons (pv 1) (pa_cons (pv 2) pa_nil))) pa_nil))))))))), ?_⟩
  obtain ⟨r, t, l, cs, rs, m, rfl, d, nl, k⟩ := h
  obtain ⟨n, h1⟩ := d.self
  obtain ⟨qs, hQL, eqs⟩ := d.asks
  refine ⟨_, rfl, r.R, _, _, rfl, h1, rfl, ?_⟩
  refine ⟨_, rfl, r.R, _, _, _, _, rfl, h1, T.cl_Reader, T.na_Reader_table, rfl, r.T, _, _, _, _, rfl, d.tab, T.cl_Table, T.na_Table_questions, rfl, ?_⟩
  refine ⟨r, t, l, cs, rs, m, 8, r.QL, _, rfl, d, nl, hQL, ?_⟩
  rw [eqs]
  by_cases c : 8 ≤ m
  · rw [if_pos c] at k ⊢
    exact k
  rw [if_neg c] at k ⊢
  refine fun H1 kp1 d1 => ?_
  have k1 := Out.mono k kp1
  unfold takeAsk at k1
  obtain ⟨n1, h11⟩ := d1.self
  refine ⟨_, rfl, r.R, _, _, rfl, h11, rfl, ?_⟩
  refine ⟨r, l, cs, rs, m, rfl, d1, Out.bind k1 fun b hb H2 kp2 k2 p d2 => ?_⟩
  -- times = 1
  obtain ⟨n2, h12⟩ := d2.self
  refine ⟨_, rfl, r.R, _, _, rfl, h12, rfl, ?_⟩
  refine ⟨r, b.2, cs, rs, m, .name (VamvsBase.word "times"), by rw [← str_word res_times, ← str_times]; rfl, .word res_times, d2, fun H3 e3 => ⟨_, rfl, ?_⟩⟩
  have d3 := d2.mono e3
  obtain ⟨n3, h13⟩ := d3.self
  have k3 := Out.mono k2 (Kp.of e3)
  by_cases c3 : nextWord "times" b.2 = true
  · refine iteT' c3 ?_
    obtain ⟨u, l4, hl4⟩ := d3.head
    rw [hl4] at d3 c3
    refine ⟨_, rfl, r.R, _, _, rfl, h13, rfl, ?_⟩
    refine ⟨r, u, l4, cs, rs, m, rfl, d3, next_head c3 (fun z => nomatch z), fun H4 kp4 d4 => ?_⟩
    obtain ⟨n4, h14⟩ := d4.self
    refine ⟨_, rfl, r.R, _, _, rfl, h14, rfl, ?_⟩
    have et : takeTimes b.2 = takeNum 1 99 l4 := by
      rw [hl4]
      exact if_pos c3
    rw [et] at k3
    refine ⟨r, l4, cs, rs, m, 1, 99, rfl, d4, Out.bind (Out.mono k3 kp4) fun b5 hb5 H5 kp5 k5 d5 => ?_⟩
    obtain ⟨n5, h15⟩ := d5.self
    refine ⟨_, rfl, r.R, _, _, rfl, h15, rfl, ?_⟩
    refine ⟨r, b5.2, cs, rs, m, .sign 59, by rw [← str_semi]; rfl, .sign (by decide), (fun z => nomatch z), d5, Out.map k5 fun l6 hb6 H6 kp6 k6 d6 => ?_⟩
    obtain ⟨n6, h16⟩ := d6.self
    obtain ⟨qs6, hQ6, eq6⟩ := d6.asks
    refine ⟨_, rfl, r.R, _, _, _, _, rfl, h16, T.cl_Reader, T.na_Reader_table, rfl, r.T, _, _, _, _, rfl, d6.tab, T.cl_Table, T.na_Table_questions, rfl, .inl ⟨rfl, _, SqL.of hQ6⟩, ?_⟩
    refine ⟨_, rfl, _, rfl, (by show 2 ≤ sizeLine; decide), fun tp htp => ?_⟩
    have e7 := Same.new (o := .tup [.ref p, .int (b5.1 : Int)]) htp
    refine ⟨r.QL, _, _, rfl, rfl, e7 _ _ hQ6, sz_lt (by omega), ?_⟩
    exact k6 _ ((Kp.of e7).trans fun x o hx _ _ _ n4 => by rw [upd_ne n4]; exact hx) ((d6.mono e7).addask (e7 _ _ hQ6) (by omega))
  · refine iteF' (Bool.eq_false_iff.mpr c3) ?_
    have et : takeTimes b.2 = .ok (1, b.2) := if_neg c3
    rw [et] at k3
    have k5 : Out A r H3 E ((takeSign 59 b.2).map fun m => ((⟨b.1, 1⟩ : Vamvsa.Ask), m)) (fun b H' => Rd A r b.2 cs rs (m + 1) H' → Q .non H') := k3
    obtain ⟨n5, h15⟩ := d3.self
    refine ⟨_, rfl, r.R, _, _, rfl, h15, rfl, ?_⟩
    refine ⟨r, b.2, cs, rs, m, .sign 59, by rw [← str_semi]; rfl, .sign (by decide), (fun z => nomatch z), d3, Out.map k5 fun l6 hb6 H6 kp6 k6 d6 => ?_⟩
    obtain ⟨n6, h16⟩ := d6.self
    obtain ⟨qs6, hQ6, eq6⟩ := d6.asks
    refine ⟨_, rfl, r.R, _, _, _, _, rfl, h16, T.cl_Reader, T.na_Reader_table, rfl, r.T, _, _, _, _, rfl, d6.tab, T.cl_Table, T.na_Table_questions, rfl, .inl ⟨rfl, _, SqL.of hQ6⟩, ?_⟩
    refine ⟨_, rfl, _, rfl, (by show 2 ≤ sizeLine; decide), fun tp htp => ?_⟩
    have e7 := Same.new (o := .tup [.ref p, .int 1]) htp
    refine ⟨r.QL, _, _, rfl, rfl, e7 _ _ hQ6, sz_lt (by omega), ?_⟩
    exact k6 _ ((Kp.of e7).trans fun x o hx _ _ _ n4 => by rw [upd_ne n4]; exact hx) ((d6.mono e7).addask (e7 _ _ hQ6) (by omega))
end
end KR
end
section
set_option maxRecDepth 100000
set_option maxHeartbeats 4000000
/-! reading: whole, read_table. -/
namespace KR
open PySem PySem.Spec PyProof.Rows L2
open VamvsBase (PTok Toks RESERVED next nextWord here tokEq takeName wrong takeSign takeWord lex)
open Vamvsa (takeColumns takeInt takeNat takeValues takeAsked takeTimes takeAsk takeLines)
theorem ok_bind {β γ : Type} {x : Except VamvsBase.Fault β} {f : β → Except VamvsBase.Fault γ} {y : γ} (h : x.bind f = .ok y) : ∃ b, x = .ok b ∧ f b = .ok y := by
  cases x with
  | error e => cases h
  | ok b => exact ⟨b, rfl, h⟩
theorem ok_map {β γ : Type} {x : Except VamvsBase.Fault β} {f : β → γ} {y : γ} (h : x.map f = .ok y) : ∃ b, x = .ok b ∧ f b = y := by
  cases x with
  | error e => cases h
  | ok b => exact ⟨b, rfl, Except.ok.inj h⟩
theorem taken_len {t : BTok} {l x : Toks} (h : VamvsBase.taken t l = .ok x) : x.length < l.length := by
  unfold VamvsBase.taken at h
  split at h
  · rename_i hn
    cases h
    cases l with
    | nil => cases hn
    | cons a r => exact Nat.lt_succ_self _
  · cases h
theorem num_len {least most : Nat} {l : Toks} {x : Nat × Toks} (h : takeNum least most l = .ok x) : x.2.length < l.length := by
  cases l with
  | nil => cases h
  | cons t s =>
    obtain ⟨q, t⟩ := t
    cases t with
    | num n =>
      have h2 : (if n < least ∨ most < n then (Except.error ⟨7, q⟩ : Except VamvsBase.Fault (Nat × Toks)) else .ok (n, s)) = .ok x := h
      split at h2
      · cases h2
      · cases h2
        exact Nat.lt_succ_self _
    | _ => cases h
theorem nat_len {most : Nat} {l : Toks} {x : Nat × Toks} (h : takeNat most l = .ok x) : x.2.length < l.length := num_len (by rw [takeNum_0]; exact h)
theorem int_len {l : Toks} {x : Int × Toks} (h : takeInt l = .ok x) : x.2.length ≤ l.length := by
  obtain ⟨b, h1, h2⟩ := ok_map h
  rw [← h2]
  have := nat_len h1
  show b.2.length ≤ _
  split at this
  · have h3 := List.length_drop (i := 1) (l := l)
    omega
  · omega
theorem values_len : ∀ (n : Nat) (vs : List Nat) (l : Toks) (x : List Nat × Toks), takeValues n vs l = .ok x → x.2.length ≤ l.length
  | 0, vs, l, x, h => by
    cases h
    exact Nat.le_refl _
  | n + 1, vs, l, x, h => by
    obtain ⟨r, h1, h2⟩ := ok_bind h
    obtain ⟨y, h3, h4⟩ := ok_bind h2
    have l1 := values_len n _ _ x h4
    have l2 := nat_len h3
    have l3 : r.length ≤ l.length := by
      split at h1
      · cases h1
        exact Nat.le_refl _
      · exact Nat.le_of_lt (taken_len h1)
    omega
theorem rowX_len {cs : List Bts} {l : Toks} {x : SRow × Toks} (h : rowX cs l = .ok x) : x.2.length ≤ l.length := by
  obtain ⟨v, h1, h⟩ := ok_bind h
  obtain ⟨r, h2, h⟩ := ok_bind h
  obtain ⟨y, h3, h⟩ := ok_bind h
  obtain ⟨m, h4, h5⟩ := ok_map h
  rw [← h5]
  have l1 := values_len _ _ _ _ h1
  have l2 := taken_len h2
  have l3 := int_len h3
  have l4 := taken_len h4
  show m.length ≤ _
  omega
theorem asked_len : ∀ (cs : List Bts) (n g : Nat) (l : Toks) (x : Nat × Toks), takeAsked cs n g l = .ok x → x.2.length ≤ l.length
  | cs, 0, g, l, x, h => by cases h
  | cs, n + 1, g, l, x, h => by
    rw [takeAsked_eq] at h
    obtain ⟨y, h1, h2⟩ := ok_bind h
    have l1 := takeAskCol_len h1
    split at h2
    · have l2 := asked_len cs n _ _ x h2
      rw [List.length_drop] at l2
      omega
    · cases h2
      exact Nat.le_of_lt l1
theorem times_len {l : Toks} {x : Nat × Toks} (h : takeTimes l = .ok x) : x.2.length ≤ l.length := by
  unfold takeTimes at h
  split at h
  · have h2 : takeNum 1 99 (l.drop 1) = .ok x := h
    have := num_len h2
    rw [List.length_drop] at this
    omega
  · cases h
    exact Nat.le_refl _
theorem ask_len {cs : List Bts} {l : Toks} {x : Vamvsa.Ask × Toks} (h : takeAsk cs l = .ok x) : x.2.length ≤ l.length := by
  obtain ⟨g, h1, h⟩ := ok_bind h
  obtain ⟨k, h2, h⟩ := ok_bind h
  obtain ⟨m, h3, h4⟩ := ok_map h
  rw [← h4]
  have l1 : g.2.length ≤ l.length := by
    split at h1
    · cases h1
      exact Nat.le_refl _
    · exact asked_len _ _ _ _ _ h1
  have l2 := times_len h2
  have l3 := taken_len h3
  show m.length ≤ _
  omega
theorem lines_row (n : Nat) (t : Vamvsa.Table) (x : PTok) (l : Toks) (h1 : next .last (x :: l) = false) (h2 : nextWord "row" (x :: l) = true) :
    takeLines (n + 1) t (x :: l) = (if 16 ≤ t.rows.length then .error ⟨4, x.place⟩ else rowX t.cols l).bind fun b => takeLines n { t with rows := t.rows ++ [b.1] } b.2 := by
  show (if next .last (x :: l) = true then _ else if nextWord "row" (x :: l) = true then (if 16 ≤ t.rows.length then _ else _) else _) = _
  rw [if_neg (by rw [h1]; exact Bool.false_ne_true), if_pos h2]
  split
  · rfl
  · unfold rowX
    rw [bind_as]
    congr 1
    funext v
    rw [bind_as]
    congr 1
    funext r
    rw [bind_as]
    congr 1
    funext y
    cases takeSign 59 y.2 <;> rfl
theorem lines_ask (n : Nat) (t : Vamvsa.Table) (x : PTok) (l : Toks) (h1 : next .last (x :: l) = false) (h2 : nextWord "row" (x :: l) = false) (h3 : nextWord "ask" (x :: l) = true) :
    takeLines (n + 1) t (x :: l) = (if 8 ≤ t.asks.length then .error ⟨4, x.place⟩ else takeAsk t.cols l).bind fun a => takeLines n { t with asks := t.asks ++ [a.1] } a.2 := by
  show (if next .last (x :: l) = true then _ else if nextWord "row" (x :: l) = true then _ else (takeWord "ask" (x :: l)).bind _) = _
  rw [if_neg (by rw [h1]; exact Bool.false_ne_true), if_neg (by rw [h2]; exact Bool.false_ne_true)]
  have e : takeWord "ask" (x :: l) = .ok l := if_pos h3
  rw [e]
  show (if 8 ≤ t.asks.length then _ else _) = _
  split <;> rfl
theorem lines_none (n : Nat) (t : Vamvsa.Table) (l : Toks) (h1 : next .last l = false) (h2 : nextWord "row" l = false) (h3 : nextWord "ask" l = false) :
    takeLines (n + 1) t l = .error ⟨3, here l⟩ := by
  show (if next .last l = true then _ else if nextWord "row" l = true then _ else (takeWord "ask" l).bind _) = _
  rw [if_neg (by rw [h1]; exact Bool.false_ne_true), if_neg (by rw [h2]; exact Bool.false_ne_true)]
  have e : takeWord "ask" l = .error ⟨3, here l⟩ := if_neg (by
    show ¬ (nextWord "ask" l = true)
    rw [h3]
    exact Bool.false_ne_true)
  rw [e]
  rfl
theorem lines_end (n : Nat) (t : Vamvsa.Table) (l : Toks) (h1 : next .last l = true) : takeLines (n + 1) t l = .ok t := if_pos h1
theorem token_ok {l : List UInt8} {t : BTok} {k : Nat} (h : VamvsBase.token l = some (t, k)) : tokOk t := by
  cases t with
  | sign c =>
    cases l with
    | nil => cases h
    | cons b r =>
      show c < 256
      have h2 : (if VamvsBase.isLetter b = true then (if VamvsBase.NAME < ((b :: r).takeWhile fun c => VamvsBase.isLetter c || VamvsBase.isDigit c).length then none else some (VamvsBase.Tok.name ((b :: r).takeWhile fun c => VamvsBase.isLetter c || VamvsBase.isDigit c), ((b :: r).takeWhile fun c => VamvsBase.isLetter c || VamvsBase.isDigit c).length))
        else if VamvsBase.isDigit b = true then (VamvsBase.numberOf ((b :: r).takeWhile VamvsBase.isDigit)).map fun n => (VamvsBase.Tok.num n, ((b :: r).takeWhile VamvsBase.isDigit).length)
        else if VamvsBase.SIGNS.contains b = true then some (.sign b.toNat, 1) else none) = some (.sign c, k) := h
      split at h2
      · split at h2
        · cases h2
        · cases h2
      · split at h2
        · cases z : VamvsBase.numberOf ((b :: r).takeWhile VamvsBase.isDigit) with
          | none => rw [z] at h2; cases h2
          | some n => rw [z] at h2; cases h2
        · split at h2
          · cases h2
            exact b.toNat_lt
          · cases h2
  | _ => exact True.intro
theorem LexOk.cons {t : PTok} {l : Toks} (h : LexOk l) (ht : tokOk t.tok) : LexOk (t :: l) := by
  obtain ⟨⟨p, hp⟩, ha⟩ := h
  refine ⟨⟨p, ?_⟩, fun u hu => ?_⟩
  · cases l with
    | nil => cases hp
    | cons a r => rw [List.getLast?_cons_cons]; exact hp
  · rcases List.mem_cons.mp hu with z | z
    · rw [z]; exact ht
    · exact ha u z
theorem lex_ok : ∀ (n i : Nat) (l : List UInt8) (ts : Toks), lex n i l = .ok ts → LexOk ts
  | 0, i, l, ts, h => by
    cases h
    exact ⟨⟨i, rfl⟩, fun u hu => by rw [List.mem_singleton.mp hu]; exact True.intro⟩
  | n + 1, i, [], ts, h => by
    cases h
    exact ⟨⟨i, rfl⟩, fun u hu => by rw [List.mem_singleton.mp hu]; exact True.intro⟩
  | n + 1, i, b :: r, ts, h => by
    have h2 : (if VamvsBase.isBlank b = true then lex n (i + 1) r
      else if b == 35 then lex n (i + 1 + (r.takeWhile (· != 10)).length) (r.dropWhile (· != 10))
      else match VamvsBase.token (b :: r) with
        | none => .error ⟨2, i⟩
        | some x => (lex n (i + x.2) ((b :: r).drop x.2)).map fun l => ⟨i, x.1⟩ :: l) = .ok ts := h
    split at h2
    · exact lex_ok n _ _ _ h2
    · split at h2
      · exact lex_ok n _ _ _ h2
      · cases z : VamvsBase.token (b :: r) with
        | none => rw [z] at h2; cases h2
        | some x =>
          rw [z] at h2
          obtain ⟨m, h3, h4⟩ := ok_map h2
          rw [← h4]
          exact (lex_ok n _ _ _ h3).cons (token_ok (t := x.1) (k := x.2) z)
def sp_whole (A : Ads) : Sp := fun vs H Q E => ∃ (r : RA) (l : Toks), vs = [.ref r.R] ∧ Rd A r l [] [] 0 H ∧
  Out A r H E ((takeWord "columns" l).bind fun x => (takeColumns (x.length + 1) [] x).bind fun x => takeLines (x.2.length + 1) ⟨x.1, [], []⟩ x.2) (fun t H' => ∀ l', Rd A r l' t.cols t.rows t.asks.length H' → Q (.ref r.T) H')
/-- a table that has been read -/
def TabAt (A : Ads) (H : Hp) (p : Addr) (t : Vamvsa.Table) : Prop := ∃ (dT c r q : Addr) (qs : List V), H p = some (.ins A.c_Table dT [("columns", .ref c), ("rows", .ref r), ("questions", .ref q)]) ∧ H c = some (.lst (t.cols.map nmV)) ∧ RowsAt H r t.rows ∧
  H q = some (.lst qs) ∧ qs.length = t.asks.length
def TabOk (t : Vamvsa.Table) : Prop := t.cols.length ≤ 4 ∧ t.rows.length ≤ 16 ∧ t.asks.length ≤ 8 ∧ ∀ x ∈ t.rows, RowOk t.cols.length x
def sp_read_table (A : Ads) : Sp := fun vs H Q E => ∃ (a : Addr) (l : List UInt8), vs = [.ref a] ∧ H a = some (.lst (l.map byV)) ∧
  (∀ f, Vamvsa.read l = .error f → FaultW A f H E) ∧ (∀ t, Vamvsa.read l = .ok t → TabOk t → ∀ H' p, Same H H' → TabAt A H' p t → Q (.ref p) H')
section
variable {P : Program} {w : World} {K : PySem.W.Frag} {mg : Str → Option Value} {base : Heap} {A : Ads}
theorem ok_Reader_whole (T : Txt K mg A) : Ok P w K mg base (L2.CX P w) 8 A.f_Reader_whole P_Reader_whole (sp_whole A) := by
  obtain ⟨fd, F, b⟩ := T.F_Reader_whole
  obtain ⟨fd_Reader_all_columns, b_Reader_all_columns, G_Reader_all_columns⟩ := ok_Reader_all_columns (P := P) (w := w) (base := base) T
  obtain ⟨fd_Reader_comes, b_Reader_comes, G_Reader_comes⟩ := ok_Reader_comes (P := P) (w := w) (base := base) T
  obtain ⟨fd_Reader_question, b_Reader_question, G_Reader_question⟩ := ok_Reader_question (P := P) (w := w) (base := base) T
  obtain ⟨fd_Reader_row, b_Reader_row, G_Reader_row⟩ := ok_Reader_row (P := P) (w := w) (base := base) T
  obtain ⟨fd_Reader_want, b_Reader_want, G_Reader_want⟩ := ok_Reader_want (P := P) (w := w) (base := base) T
  refine ⟨fd, b, F.okX sc_Reader_whole (fun vs H Q E h => by
    obtain ⟨r, l, rfl, _⟩ := h
    rfl) (fun cdv Ar outer s H vs Q E hr h => ?_)⟩
  refine ⟨_, (pss_cons (ps_expr (pe_meth0 (pv 0) T.cl_Reader T.m_Reader_all_columns G_Reader_all_columns (hr.mono (by decide)) b_Reader_all_columns .nil (passes_call (takes_of rfl rfl rfl rfl) (fun _ _ _ _ h => h))))
    (pss_cons (ps_while (passes_of rfl) (pt_not (pt_val (pe_meth (pv 0) T.cl_Reader T.m_Reader_comes G_Reader_comes (hr.mono (by decide)) b_Reader_comes .nil pass0 (pa_cons (pe_cS T.c_END) (pa_cons pe_str pa_nil))))) (pss_cons (ps_expr (pe_meth (pv 0) T.cl_Reader T.m_Reader_want G_Reader_want (hr.mono (by decide)) b_Reader_want .nil (passes_call (takes_of rfl rfl rfl rfl) (fun _ _ _ _ h => h)) (pa_cons (pe_or (pe_meth (pv 0) T.cl_Reader T.m_Reader_comes G_Reader_comes (hr.mono (by decide)) b_Reader_comes .nil pass0 (pa_cons (pe_cS T.c_WORD) (pa_cons pe_str pa_nil))) (pe_one (pe_meth (pv 0) T.cl_Reader T.m_Reader_comes G_Reader_comes (hr.mono (by decide)) b_Reader_comes .nil pass0 (pa_cons (pe_cS T.c_WORD) (pa_cons pe_str pa_nil))))) (pa_cons (pe_cI T.c_MISPLACED) pa_nil))))
    (pss_one (ps_if (pt_val (pe_meth (pv 0) T.cl_Reader T.m_Reader_comes G_Reader_comes (hr.mono (by decide)) b_Reader_comes .nil pass0 (pa_cons (pe_cS T.c_WORD) (pa_cons pe_str pa_nil)))) (pss_one (ps_expr (pe_meth0 (pv 0) T.cl_Reader T.m_Reader_row G_Reader_row (hr.mono (by decide)) b_Reader_row .nil (passes_call (takes_of rfl rfl rfl rfl) (fun _ _ _ _ h => h))))) (pss_one (ps_expr (pe_meth0 (pv 0) T.cl_Reader T.m_Reader_question G_Reader_question (hr.mono (by decide)) b_Reader_question .nil (passes_call (takes_of rfl rfl rfl rfl) (fun _ _ _ _ h => h)))))))))
    (pss_one (ps_ret (pe_fld (pv 0) rfl))))), ?_⟩
  obtain ⟨r, l, rfl, d, k⟩ := h
  obtain ⟨n, h1⟩ := d.self
  refine ⟨_, rfl, r.R, _, _, rfl, h1, rfl, ?_⟩
  rw [← bind_as] at k
  refine ⟨r, l, 0, rfl, d, Out.bind k fun b hb H1 kp1 k1 d1 c0 => ?_⟩
  refine ⟨fun mm σ H' => ∃ (l : Toks) (t : Vamvsa.Table) (f : Nat), σ = [some (.ref r.R)] ∧ Rd A r l t.cols t.rows t.asks.length H' ∧ Kp r H H' ∧ 0 < t.cols.length ∧ mm = l.length ∧ l.length < f ∧
      Out A r H' E (takeLines f t l) (fun t H' => ∀ l', Rd A r l' t.cols t.rows t.asks.length H' → Q (.ref r.T) H'),
    ⟨_, b.2, ⟨b.1, [], []⟩, b.2.length + 1, rfl, d1, kp1, c0, rfl, Nat.lt_succ_self _, k1⟩, ?_⟩
  rintro mm σ H2 ⟨l2, t, f, rfl, d2, kp2, c0, rfl, hf, k2⟩
  obtain ⟨f2, rfl⟩ : ∃ f2, f = f2 + 1 := ⟨f - 1, by omega⟩
  obtain ⟨n2, h12⟩ := d2.self
  refine ⟨_, rfl, r.R, _, _, rfl, h12, rfl, ?_⟩
  refine ⟨r, l2, t.cols, t.rows, _, .last, rfl, .last, d2, fun H3 e3 => ⟨_, rfl, ?_⟩⟩
  have d3 := d2.mono e3
  obtain ⟨n3, h13⟩ := d3.self
  have k3 := Out.mono k2 (Kp.of e3)
  by_cases c1 : next .last l2 = true
  · refine iteF' (by rw [c1]; rfl) ?_
    rw [lines_end _ _ _ c1] at k3
    refine ⟨_, rfl, r.R, _, _, _, _, rfl, h13, T.cl_Reader, T.na_Reader_table, rfl, ?_⟩
    exact k3 H3 (Kp.refl r H3) l2 d3
  have c1' := Bool.eq_false_iff.mpr c1
  refine iteT' (by rw [c1']; rfl) ⟨_, fun _ _ h => h, ?_⟩
  -- want(comes(WORD, "row") or comes(WORD, "ask"), MISPLACED)
  refine ⟨_, rfl, r.R, _, _, rfl, h13, rfl, ?_⟩
  refine ⟨_, rfl, r.R, _, _, rfl, h13, rfl, ?_⟩
  refine ⟨r, l2, t.cols, t.rows, _, .name (VamvsBase.word "row"), by rw [← str_word res_row, ← str_row]; rfl, .word res_row, d3, fun H4 e4 => ⟨_, rfl, ?_⟩⟩
  have d4 := d3.mono e4
  obtain ⟨n4, h14⟩ := d4.self
  have k4 := Out.mono k3 (Kp.of e4)
  obtain ⟨x, l5, rfl⟩ := d4.head
  rw [List.length_cons] at hf
  by_cases c2 : nextWord "row" (x :: l5) = true
  · refine iteT' c2 ?_
    refine ⟨r, x :: l5, t.cols, t.rows, _, true, 3, rfl, d4, fun _ => ?_, fun z => by cases z⟩
    refine ⟨_, rfl, r.R, _, _, rfl, h14, rfl, ?_⟩
    refine ⟨r, x :: l5, t.cols, t.rows, _, .name (VamvsBase.word "row"), by rw [← str_word res_row, ← str_row]; rfl, .word res_row, d4, fun H5 e5 => ⟨_, rfl, ?_⟩⟩
    have d5 := d4.mono e5
    obtain ⟨n5, h15⟩ := d5.self
    have k5 := Out.mono k4 (Kp.of e5)
    rw [lines_row _ _ _ _ c1' c2] at k5
    refine iteT' c2 ?_
    refine ⟨_, rfl, r.R, _, _, rfl, h15, rfl, ?_⟩
    refine ⟨r, x, l5, t.cols, t.rows, _, rfl, d5, next_head c2 (fun z => nomatch z), c0, Out.bind k5 fun b6 hb6 H6 kp6 k6 d6 => ?_⟩
    have hl : b6.2.length ≤ l5.length := by
      split at hb6
      · cases hb6
      · exact rowX_len hb6
    exact ⟨b6.2.length, by rw [List.length_cons]; omega, b6.2, { t with rows := t.rows ++ [b6.1] }, f2, rfl, d6, (((kp2.trans (Kp.of e3)).trans (Kp.of e4)).trans (Kp.of e5)).trans kp6, c0, rfl, by omega, k6⟩
  have c2' := Bool.eq_false_iff.mpr c2
  refine iteF' c2' ?_
  refine ⟨_, rfl, r.R, _, _, rfl, h14, rfl, ?_⟩
  refine ⟨r, x :: l5, t.cols, t.rows, _, .name (VamvsBase.word "ask"), by rw [← str_word res_ask, ← str_ask]; rfl, .word res_ask, d4, fun H5 e5 => ?_⟩
  have d5 := d4.mono e5
  obtain ⟨n5, h15⟩ := d5.self
  have k5 := Out.mono k4 (Kp.of e5)
  refine ⟨r, x :: l5, t.cols, t.rows, _, nextWord "ask" (x :: l5), 3, rfl, d5, fun c3 => ?_, fun c3 => ?_⟩
  · refine ⟨_, rfl, r.R, _, _, rfl, h15, rfl, ?_⟩
    refine ⟨r, x :: l5, t.cols, t.rows, _, .name (VamvsBase.word "row"), by rw [← str_word res_row, ← str_row]; rfl, .word res_row, d5, fun H6 e6 => ⟨_, rfl, ?_⟩⟩
    have d6 := d5.mono e6
    obtain ⟨n6, h16⟩ := d6.self
    have k6 := Out.mono k5 (Kp.of e6)
    rw [lines_ask _ _ _ _ c1' c2' c3] at k6
    refine iteF' c2' ?_
    refine ⟨_, rfl, r.R, _, _, rfl, h16, rfl, ?_⟩
    refine ⟨r, x, l5, t.cols, t.rows, _, rfl, d6, next_head c3 (fun z => nomatch z), Out.bind k6 fun b7 hb7 H7 kp7 k7 d7 => ?_⟩
    have hl : b7.2.length ≤ l5.length := by
      split at hb7
      · cases hb7
      · exact ask_len hb7
    refine ⟨b7.2.length, by rw [List.length_cons]; omega, b7.2, { t with asks := t.asks ++ [b7.1] }, f2, rfl, ?_, ((((kp2.trans (Kp.of e3)).trans (Kp.of e4)).trans (Kp.of e5)).trans (Kp.of e6)).trans kp7, c0, rfl, by omega, k7⟩
    show Rd A r b7.2 t.cols t.rows (t.asks ++ [b7.1]).length H7
    rw [List.length_append]
    exact d7
  · rw [lines_none _ _ _ c1' c2' c3] at k5
    exact k5
theorem ok_read_table (T : Txt K mg A) : Ok P w K mg base (L2.CX P w) 9 A.f_read_table P_read_table (sp_read_table A) := by
  obtain ⟨fd, F, b⟩ := T.F_read_table
  obtain ⟨fd_Fault_init, b_Fault_init, G_Fault_init⟩ := ok_Fault_init (P := P) (w := w) (base := base) T
  obtain ⟨fd_Reader_init, b_Reader_init, G_Reader_init⟩ := ok_Reader_init (P := P) (w := w) (base := base) T
  obtain ⟨fd_Reader_whole, b_Reader_whole, G_Reader_whole⟩ := ok_Reader_whole (P := P) (w := w) (base := base) T
  obtain ⟨fd_tokens_of, b_tokens_of, G_tokens_of⟩ := ok_tokens_of (P := P) (w := w) (base := base) T
  refine ⟨fd, b, F.okX sc_read_table (fun vs H Q E h => by
    obtain ⟨a, l, rfl, _⟩ := h
    rfl) (fun cdv Ar outer s H vs Q E hr h => ?_)⟩
  refine ⟨_, (pss_cons (ps_if (pt_cmpR op_gt (pe_callB call_len_seq (by rfl) T.n_len (by decide +kernel) (pa_cons (pv 0) pa_nil)) (pe_cI T.c_MOST_BYTES) (nomark _)) (pss_one (ps_raise rfl (takes_of rfl rfl rfl rfl) (pmk_oex T.oex_Fault T.i_Fault T.t_Fault G_Fault_init (hr.mono (by decide)) b_Fault_init .nil pass0 rfl T.g_Fault (pa_cons (pe_cI T.c_LONG_TEXT) (pa_cons (pe_cI T.c_MOST_BYTES) pa_nil))))) pss_nil)
    (pss_one (ps_ret (pe_meth0 (pe_make T.mk_Reader G_Reader_init (hr.mono (by decide)) rfl T.g_Reader b_Reader_init .nil pass0 (pa_cons (pe_call G_tokens_of (hr.mono (by decide)) rfl T.g_tokens_of T.k_tokens_of b_tokens_of .nil (passes_call (takes_of rfl rfl rfl rfl) (fun _ _ _ _ h => h)) (pa_cons (pv 0) pa_nil)) pa_nil)) T.cl_Reader T.m_Reader_whole G_Reader_whole (hr.mono (by decide)) b_Reader_whole .nil (passes_call (takes_of rfl rfl rfl rfl) (fun _ _ _ _ h => h)))))), ?_⟩
  obtain ⟨a, l, rfl, ha, kE, kS⟩ := h
  unfold Vamvsa.read at kE kS
  rw [tokens_eq] at kE kS
  refine ⟨_, rfl, a, _, rfl, .inl (SqL.of ha), _, _, rfl, rfl, _, rfl, ?_⟩
  rw [List.length_map]
  by_cases c : 4096 < l.length
  · refine iteT' (decide_eq_true (by omega)) ?_
    rw [if_pos c] at kE
    refine ⟨(by show 2 ≤ 1000; decide), fun a1 ha1 => ⟨a1, 1, 4096, rfl, upd_same, fun H' d m => ?_⟩⟩
    obtain ⟨m1, m2, m3, m4⟩ := raise_of (A := A) (kE _ rfl) ha1 m
    exact ⟨rfl, d, _, m1, m2, m3, m4⟩
  refine iteF' (decide_eq_false (by omega)) ?_
  rw [if_neg c] at kE kS
  refine ⟨_, rfl, a, l, rfl, ha, by omega, fun f hf => ?_, fun ts hts H1 tk e1 htk ht1 => ?_⟩
  · exact kE f (by rw [hf]; rfl)
  rw [hts] at kE kS
  refine fun x dx hx hdx nx => ?_
  have lok : LexOk ts := lex_ok _ _ _ _ hts
  have e2 : Same H1 (upd (upd H1 dx (.own x)) x (.ins A.c_Reader dx [])) := (Same.new hdx).trans (Same.new (by rw [upd_ne (Ne.symm nx)]; exact hx))
  refine ⟨x, dx, tk, ts, rfl, upd_same, ht1.mono e2, lok, fun H3 r hrx d3 f3 g1 g2 g3 g4 => ⟨rfl, ?_⟩⟩
  subst hrx
  have n2 : ∀ b, upd (upd H1 dx (.own r.R)) r.R (.ins A.c_Reader dx []) b = none → H1 b = none := fun b hb => by
    cases z : H1 b with
    | none => rfl
    | some o => rw [e2 _ _ z] at hb; cases hb
  have e3 : Same H1 H3 := fun b o hb => f3 b o (e2 b o hb) (ne_of_none hb hx)
  have toSame : ∀ H', Kp r H3 H' → Same H1 H' := fun H' kp b o hb => kp b o (e3 b o hb) (ne_of_none hb hx) (ne_of_none hb (n2 _ g2)) (ne_of_none hb (n2 _ g3)) (ne_of_none hb (n2 _ g4))
  obtain ⟨n3, h13⟩ := d3.self
  refine ⟨r.R, _, _, rfl, h13, rfl, ?_⟩
  refine ⟨r, ts, rfl, d3, ?_⟩
  cases hx2 : (takeWord "columns" ts).bind fun x => (takeColumns (x.length + 1) [] x).bind fun x => takeLines (x.2.length + 1) ⟨x.1, [], []⟩ x.2 with
  | error f => exact fun H' d kp hd => kE f hx2 H' d (e1.trans (toSame H' kp)) hd
  | ok t =>
    refine fun H' kp l' d' => ?_
    obtain ⟨qs, q1, q2⟩ := d'.asks
    exact kS t hx2 ⟨d'.c4, d'.r16, d'.m8, d'.rok⟩ H' r.T (e1.trans (toSame H' kp)) ⟨r.dT, r.CL, r.RL, r.QL, qs, d'.tab, d'.cols, d'.rows, q1, q2⟩
end
end KR
end
section
set_option maxRecDepth 100000
set_option maxHeartbeats 4000000
/-! keeping: how a Store lies in the heap; the small methods. -/
namespace KR
open PySem PySem.Spec PyProof.Rows L2
open Vamvsa (Group columnsOf canFrom)
/-- a kept answer as the program has it -/
structure KI where
  g : Nat
  l : List Group
  made : Nat
/-- a store as the program has it -/
structure Mz where
  n : Nat
  hist : List (List SRow)
  chs : List (Bool × SRow)
  kept : List KI
def way : Bool → Int
  | true => 1
  | false => -1
def nowM (M : Mz) : List SRow := M.hist.getLast?.getD []
def findK (ks : List KI) (g : Nat) : Option KI := ks.find? fun x => decide (x.g = g)
def ageM (M : Mz) (x : KI) : Nat := M.chs.length - x.made
structure MOk (M : Mz) : Prop where
  n4 : M.n ≤ 4
  hlen : M.hist.length = M.chs.length + 1
  c40 : M.chs.length ≤ 40
  rows : ∀ rs ∈ M.hist, rs.length ≤ 16 ∧ ∀ r ∈ rs, RowOk M.n r
  crow : ∀ c ∈ M.chs, RowOk M.n c.2
  kg : ∀ x ∈ M.kept, x.g < 2 ^ M.n ∧ KOk (columnsOf M.n x.g).length x.l ∧ x.l.length ≤ 60 ∧ x.made ≤ M.chs.length
  srt : M.kept.Pairwise fun x y => x.g < y.g
theorem cut_from (xs : List V) {i : Nat} (hi : i ≤ xs.length) : cutV xs (some (i : Int)) none = xs.drop i := by
  unfold cutV
  rw [HT.sIx_nat, Nat.min_eq_left hi]
  show (xs.drop i).take (xs.length - i) = xs.drop i
  rw [← List.length_drop, List.take_length]
theorem cut_to (xs : List V) {i : Nat} (hi : i ≤ xs.length) : cutV xs none (some (i : Int)) = xs.take i := by
  unfold cutV
  rw [HT.sIx_nat, Nat.min_eq_left hi]
  show (xs.drop 0).take (i - 0) = xs.take i
  rfl
/-- where a store lies; X: a list of the caller's -/
structure SA where
  (S dS HL CL KD X : Addr)
def ChAt (H : Hp) (a : Addr) (c : Bool × SRow) : Prop := ∃ p, H a = some (.tup [.int (way c.1), .ref p]) ∧ RowAt H p c.2
def ChsAt (H : Hp) (a : Addr) (cs : List (Bool × SRow)) : Prop := ∃ as : List Addr, H a = some (.lst (as.map V.ref)) ∧ Paired (ChAt H) as cs
def KeptAt (A : Ads) (H : Hp) (p : L2.Key × V) (x : KI) : Prop := p.1 = .inl (x.g : Int) ∧ ∃ a d L, p.2 = .ref a ∧ H a = some (.ins A.c_Kept d [("lines_kept", .ref L), ("made", .int (x.made : Int))]) ∧ AnsAt H L x.l
structure St (A : Ads) (q : SA) (M : Mz) (H : Hp) : Prop where
  self : H q.S = some (.ins A.c_Store q.dS [("many", .int (M.n : Int)), ("history", .ref q.HL), ("changes", .ref q.CL), ("kept", .ref q.KD)])
  hist : ∃ hs : List Addr, H q.HL = some (.lst (hs.map V.ref)) ∧ Paired (RowsAt H) hs M.hist ∧ ∀ h ∈ hs, h ≠ q.HL ∧ h ≠ q.CL ∧ h ≠ q.X
  chs : ChsAt H q.CL M.chs
  kept : ∃ kvs : List (L2.Key × V), H q.KD = some (.dK kvs) ∧ Paired (KeptAt A H) kvs M.kept
  ne : q.HL ≠ q.CL
  ok : MOk M
  ext : ∃ xs : List V, H q.X = some (.lst xs)
  xne : q.X ≠ q.HL ∧ q.X ≠ q.CL
theorem ChAt.mono {H H' : Hp} (e : Same H H') {a : Addr} {c : Bool × SRow} (h : ChAt H a c) : ChAt H' a c := by
  obtain ⟨p, h1, h2⟩ := h
  exact ⟨p, e _ _ h1, h2.mono e⟩
theorem ChsAt.mono {H H' : Hp} (e : Same H H') {a : Addr} {cs : List (Bool × SRow)} (h : ChsAt H a cs) : ChsAt H' a cs := by
  obtain ⟨as, h1, h2⟩ := h
  exact ⟨as, e _ _ h1, pr_imp h2 fun _ _ => ChAt.mono e⟩
theorem KeptAt.mono {A : Ads} {H H' : Hp} (e : Same H H') {p : L2.Key × V} {x : KI} (h : KeptAt A H p x) : KeptAt A H' p x := by
  obtain ⟨h1, a, d, L, h2, h3, h4⟩ := h
  exact ⟨h1, a, d, L, h2, e _ _ h3, h4.mono e⟩
theorem St.mono {A : Ads} {q : SA} {M : Mz} {H H' : Hp} (e : Same H H') (h : St A q M H) : St A q M H' := by
  obtain ⟨h1, ⟨hs, h2, h3, h4⟩, h5, ⟨kvs, h6, h7⟩, h8, h9, ⟨xs, h10⟩, h11⟩ := h
  exact ⟨e _ _ h1, ⟨hs, e _ _ h2, pr_imp h3 fun _ _ => RowsAt.mono e, h4⟩, h5.mono e, ⟨kvs, e _ _ h6, pr_imp h7 fun _ _ => KeptAt.mono e⟩, h8, h9, ⟨xs, e _ _ h10⟩, h11⟩
theorem kept_find {A : Ads} {H : Hp} {kvs : List (L2.Key × V)} {ks : List KI} (h : Paired (KeptAt A H) kvs ks) (g : Nat) :
    (findK ks g = none ∧ valV kvs (.inl (g : Int)) = none) ∨ ∃ x p, findK ks g = some x ∧ x.g = g ∧ valV kvs (.inl (g : Int)) = some p.2 ∧ KeptAt A H p x := by
  induction h with
  | nil => exact .inl ⟨rfl, rfl⟩
  | @cons p x ps xs r t ih =>
    by_cases e : x.g = g
    · refine .inr ⟨x, p, ?_, e, ?_, r⟩
      · unfold findK
        rw [List.find?_cons, decide_eq_true e]
      · rw [valV_pos (by rw [r.1, e])]
    · have ne : ¬ p.1 = .inl (g : Int) := fun z => e (Int.ofNat.inj (Sum.inl.inj (r.1.symm.trans z)))
      have f1 : findK (x :: xs) g = findK xs g := by
        unfold findK
        rw [List.find?_cons, decide_eq_false e]
      have f2 : valV (p :: ps) (.inl (g : Int)) = valV ps (.inl (g : Int)) := by simp [valV, List.find?_cons, ne]
      rw [f1, f2]
      exact ih
theorem findK_mem {ks : List KI} {g : Nat} {x : KI} (h : findK ks g = some x) : x ∈ ks ∧ x.g = g := by
  have a := List.mem_of_find?_eq_some h
  have b := List.find?_some h
  exact ⟨a, of_decide_eq_true b⟩
theorem kept_keys {A : Ads} {H : Hp} {kvs : List (L2.Key × V)} {ks : List KI} (h : Paired (KeptAt A H) kvs ks) : kvs.map (·.1) = (ks.map fun x => (x.g : Int)).map Sum.inl := by
  induction h with
  | nil => rfl
  | cons r t ih =>
    rw [List.map_cons, List.map_cons, List.map_cons, r.1, ih]
theorem St.get {A : Ads} {q : SA} {M : Mz} {H : Hp} (d : St A q M H) {g : Nat} {x : KI} (h : findK M.kept g = some x) : ∃ a dd L, DGet H q.KD (.int (g : Int)) (some (.ref a)) ∧
    H a = some (.ins A.c_Kept dd [("lines_kept", .ref L), ("made", .int (x.made : Int))]) ∧ AnsAt H L x.l := by
  obtain ⟨kvs, h6, h7⟩ := d.kept
  rcases kept_find h7 g with ⟨z, -⟩ | ⟨y, p, z1, z2, z3, z4, a, dd, L, z5, z6, z7⟩
  · rw [h] at z
    cases z
  · rw [h] at z1
    cases z1
    refine ⟨a, dd, L, ?_, z6, z7⟩
    have := DGet.k (k := .inl (g : Int)) h6
    rw [z3, z5] at this
    exact this
theorem St.now {A : Ads} {q : SA} {M : Mz} {H : Hp} (d : St A q M H) : ∃ (hs : List Addr) (h : Addr), H q.HL = some (.lst (hs.map V.ref)) ∧ atI (hs.map V.ref) (-1) = some (.ref h) ∧ RowsAt H h (nowM M) ∧ h ∈ hs := by
  obtain ⟨hs, h1, h2, h3⟩ := d.hist
  have hl := d.ok.hlen
  have hl2 := pr_len h2
  have ne : M.hist ≠ [] := fun z => by rw [z] at hl; cases hl
  obtain ⟨init, last, e⟩ : ∃ init last, hs = init ++ [last] := by
    rcases List.eq_nil_or_concat hs with z | ⟨i, l, z⟩
    · rw [z] at hl2
      exact absurd (List.length_eq_zero_iff.mp hl2.symm) ne
    · exact ⟨i, l, by rw [z, List.concat_eq_append]⟩
  refine ⟨hs, last, h1, ?_, ?_, by rw [e]; simp⟩
  · rw [e, List.map_append]
    exact atI_last _ _
  · have hi : hs[M.hist.length - 1]? = some last := by
      rw [← hl2, e, List.length_append]
      show (init ++ [last])[init.length]? = some last
      simp
    obtain ⟨rs, r1, r2⟩ := pr_at' h2 hi
    have : nowM M = rs := by
      unfold nowM
      rw [List.getLast?_eq_getElem?, r1]
      rfl
    rw [this]
    exact r2
def sp_Kept_init (A : Ads) : Sp := fun vs H Q _ => ∃ (a d L : Addr) (m : Int), vs = [.ref a, .ref L, .int m] ∧ H a = some (.ins A.c_Kept d []) ∧
  ∀ H', (∀ b o, H b = some o → b ≠ a → H' b = some o) → H' a = some (.ins A.c_Kept d [("lines_kept", .ref L), ("made", .int m)]) → (∀ b, H b = none → H' b = none) → Q .non H'
def sp_rows_now (A : Ads) : Sp := fun vs H Q _ => ∃ (q : SA) (M : Mz), vs = [.ref q.S] ∧ St A q M H ∧ ∀ h, RowsAt H h (nowM M) → h ≠ q.HL → h ≠ q.CL → Q (.ref h) H
def sp_is_grouping (A : Ads) : Sp := fun vs H Q _ => ∃ (q : SA) (M : Mz) (i : Int), vs = [.ref q.S, .int i] ∧ St A q M H ∧ Q (.bl (decide (0 ≤ i ∧ i < ((2 ^ M.n : Nat) : Int)))) H
def sp_age (A : Ads) : Sp := fun vs H Q _ => ∃ (q : SA) (M : Mz) (x : KI), vs = [.ref q.S, .int (x.g : Int)] ∧ St A q M H ∧ findK M.kept x.g = some x ∧ Q (.int (ageM M x : Nat)) H
def sp_since (A : Ads) : Sp := fun vs H Q _ => ∃ (q : SA) (M : Mz) (x : KI), vs = [.ref q.S, .int (x.g : Int)] ∧ St A q M H ∧ findK M.kept x.g = some x ∧
  ∀ H' p, Same H H' → H p = none → ChsAt H' p (M.chs.drop x.made) → Q (.ref p) H'
/-- what a kept answer's lines ask of the heap (the dict of kept answers may be walked) -/
def LinesAt (A : Ads) (H : Hp) (S KD : Addr) (g : Nat) (l : List Group) : Prop := ∃ (dS : Addr) (v1 v2 v3 m : V) (a dd L : Addr), H S = some (.ins A.c_Store dS [("many", v1), ("history", v2), ("changes", v3), ("kept", .ref KD)]) ∧
  DGet H KD (.int (g : Int)) (some (.ref a)) ∧ H a = some (.ins A.c_Kept dd [("lines_kept", .ref L), ("made", m)]) ∧ AnsAt H L l
theorem St.linesAt {A : Ads} {q : SA} {M : Mz} {H : Hp} (d : St A q M H) {x : KI} (h : findK M.kept x.g = some x) : LinesAt A H q.S q.KD x.g x.l := by
  obtain ⟨a, dd, L, g1, g2, g3⟩ := d.get h
  exact ⟨_, _, _, _, _, a, dd, L, d.self, g1, g2, g3⟩
def sp_lines (A : Ads) : Sp := fun vs H Q _ => ∃ (S KD : Addr) (g : Nat) (l : List Group), vs = [.ref S, .int (g : Int)] ∧ LinesAt A H S KD g l ∧ Q (.int (l.length : Nat)) H
section
variable {P : Program} {w : World} {K : PySem.W.Frag} {mg : Str → Option Value} {base : Heap} {A : Ads}
theorem ok_Kept_init (T : Txt K mg A) : Ok P w K mg base CX0 1 A.f_Kept_init P_Kept_init (sp_Kept_init A) := by
  obtain ⟨fd, F, b⟩ := T.F_Kept_init
  refine ⟨fd, b, F.ok sc_Kept_init (fun vs H Q E h => by
    obtain ⟨a, d, L, m, rfl, _⟩ := h
    rfl) (fun cdv Ar outer s H vs Q E hr h => ?_)⟩
  refine ⟨_, (pss_cons (ps_fld (pv 0) (pv 1) rfl)
    (pss_one (ps_fld (pv 0) (pv 2) rfl))), ?_⟩
  obtain ⟨a, d, L, m, rfl, ha, k⟩ := h
  refine ⟨_, rfl, _, rfl, a, _, _, _, rfl, ha, T.cl_Kept, T.na_Kept_lines_kept, (by show 0 < 1000; decide), ?_⟩
  refine ⟨_, rfl, _, rfl, a, _, _, _, rfl, upd_same, T.cl_Kept, T.na_Kept_made, (by show 1 < 1000; decide), ?_⟩
  refine k _ (fun b o hb nb => ?_) upd_same (fun b hb => ?_)
  · rw [upd_ne nb, upd_ne nb]
    exact hb
  · have nb : b ≠ a := fun z => by rw [z, ha] at hb; cases hb
    rw [upd_ne nb, upd_ne nb]
    exact hb
theorem ok_Store_rows_now (T : Txt K mg A) : Ok P w K mg base CX0 1 A.f_Store_rows_now P_Store_rows_now (sp_rows_now A) := by
  obtain ⟨fd, F, b⟩ := T.F_Store_rows_now
  refine ⟨fd, b, F.ok sc_Store_rows_now (fun vs H Q E h => by
    obtain ⟨q, M, rfl, _⟩ := h
    rfl) (fun cdv Ar outer s H vs Q E hr h => ?_)⟩
  refine ⟨_, (pss_one (ps_ret (pe_ix ix_list (pe_fld (pv 0) rfl) (pe_un un_neg pe_int) (fun _ _ => rfl)))), ?_⟩
  obtain ⟨q, M, rfl, d, k⟩ := h
  obtain ⟨hs, h, h1, h2, h3, h4⟩ := d.now
  obtain ⟨hs2, g1, g2, g3⟩ := d.hist
  refine ⟨_, rfl, q.S, _, _, _, _, rfl, d.self, T.cl_Store, T.na_Store_history, rfl, _, rfl, q.HL, _, _, _, rfl, rfl, SqL.of h1, h2, ?_⟩
  have e : hs2 = hs := by
    rw [h1] at g1
    exact ((List.map_inj_right (f := V.ref) (fun a b h => V.ref.inj h)).mp (HO.lst.inj (Option.some.inj g1))).symm
  rw [e] at g3
  exact k h h3 (g3 h h4).1 (g3 h h4).2.1
theorem ok_Store_is_grouping (T : Txt K mg A) : Ok P w K mg base CX0 1 A.f_Store_is_grouping P_Store_is_grouping (sp_is_grouping A) := by
  obtain ⟨fd, F, b⟩ := T.F_Store_is_grouping
  refine ⟨fd, b, F.ok sc_Store_is_grouping (fun vs H Q E h => by
    obtain ⟨q, M, i, rfl, _⟩ := h
    rfl) (fun cdv Ar outer s H vs Q E hr h => ?_)⟩
  refine ⟨_, (pss_one (ps_ret (pe_chain op_le op_lt pe_int (pv 1) (pe_op op_shl pe_int (pe_fld (pv 0) rfl))))), ?_⟩
  obtain ⟨q, M, i, rfl, d, k⟩ := h
  have n4 := d.ok.n4
  refine ⟨_, rfl, _, _, rfl, rfl, _, rfl, ?_⟩
  by_cases c : 0 ≤ i
  · refine iteT' (decide_eq_true c) ?_
    refine ⟨_, rfl, q.S, _, _, _, _, rfl, d.self, T.cl_Store, T.na_Store_many, rfl, _, _, rfl, rfl, ?_, _, _, rfl, rfl, ?_⟩
    · exact ⟨by omega, by omega, by decide⟩
    · have e : decide (i < 1 * 2 ^ ((M.n : Int)).toNat) = decide (0 ≤ i ∧ i < ((2 ^ M.n : Nat) : Int)) := by
        rw [Int.toNat_natCast, Int.one_mul]
        have : ((2 ^ M.n : Nat) : Int) = 2 ^ M.n := by simp
        rw [this]
        by_cases z : i < 2 ^ M.n
        · rw [decide_eq_true z, decide_eq_true ⟨c, z⟩]
        · rw [decide_eq_false z, decide_eq_false fun y => z y.2]
      show Q (.bl (decide (i < 1 * 2 ^ ((M.n : Int)).toNat))) H
      rw [e]
      exact k
  · refine iteF' (decide_eq_false c) ?_
    show Q (.bl false) H
    rw [decide_eq_false fun z => c z.1] at k
    exact k
theorem ok_Store_age (T : Txt K mg A) : Ok P w K mg base CX0 1 A.f_Store_age P_Store_age (sp_age A) := by
  obtain ⟨fd, F, b⟩ := T.F_Store_age
  refine ⟨fd, b, F.ok sc_Store_age (fun vs H Q E h => by
    obtain ⟨q, M, x, rfl, _⟩ := h
    rfl) (fun cdv Ar outer s H vs Q E hr h => ?_)⟩
  refine ⟨_, (pss_one (ps_ret (pe_op op_sub (pe_callB call_len_seq (by rfl) T.n_len (by decide +kernel) (pa_cons (pe_fld (pv 0) rfl) pa_nil)) (pe_fld (pe_dget (hu_of hr) (pe_fld (pv 0) rfl) (pv 1) (fun _ _ => rfl)) rfl)))), ?_⟩
  obtain ⟨q, M, x, rfl, d, hx, k⟩ := h
  obtain ⟨a, dd, L, g1, g2, g3⟩ := d.get hx
  obtain ⟨cs, c1, c2⟩ := d.chs
  have hm := (d.ok.kg x (findK_mem hx).1).2.2.2
  refine ⟨_, rfl, q.S, _, _, _, _, rfl, d.self, T.cl_Store, T.na_Store_changes, rfl, q.CL, _, rfl, .inl (SqL.of c1), ?_⟩
  refine ⟨_, rfl, q.S, _, _, _, _, rfl, d.self, T.cl_Store, T.na_Store_kept, rfl, _, rfl, q.KD, _, rfl, g1, a, _, _, _, _, rfl, g2, T.cl_Kept, T.na_Kept_made, rfl, _, _, rfl, rfl, ?_⟩
  show Q (.int (((cs.map V.ref).length : Nat) - (x.made : Int))) H
  rw [List.length_map, pr_len c2]
  have e : ((M.chs.length : Nat) : Int) - (x.made : Int) = ((ageM M x : Nat) : Int) := by
    unfold ageM
    omega
  rw [e]
  exact k
theorem ok_Store_since (T : Txt K mg A) : Ok P w K mg base CX0 1 A.f_Store_since P_Store_since (sp_since A) := by
  obtain ⟨fd, F, b⟩ := T.F_Store_since
  refine ⟨fd, b, F.ok sc_Store_since (fun vs H Q E h => by
    obtain ⟨q, M, x, rfl, _⟩ := h
    rfl) (fun cdv Ar outer s H vs Q E hr h => ?_)⟩
  refine ⟨_, (pss_one (ps_ret (pe_slice sl_list (pe_fld (pv 0) rfl) (po_some (pe_fld (pe_dget (hu_of hr) (pe_fld (pv 0) rfl) (pv 1) (fun _ _ => rfl)) rfl)) po_none))), ?_⟩
  obtain ⟨q, M, x, rfl, d, hx, k⟩ := h
  obtain ⟨a, dd, L, g1, g2, g3⟩ := d.get hx
  obtain ⟨cs, c1, c2⟩ := d.chs
  have hm := (d.ok.kg x (findK_mem hx).1).2.2.2
  refine ⟨_, rfl, q.S, _, _, _, _, rfl, d.self, T.cl_Store, T.na_Store_changes, rfl, ?_⟩
  refine ⟨_, rfl, q.S, _, _, _, _, rfl, d.self, T.cl_Store, T.na_Store_kept, rfl, _, rfl, q.KD, _, rfl, g1, a, _, _, _, _, rfl, g2, T.cl_Kept, T.na_Kept_made, rfl, _, rfl, q.CL, _, rfl, SqL.of c1, fun p hp => ?_⟩
  refine k _ p (Same.new hp) hp ⟨cs.drop x.made, ?_, ?_⟩
  · rw [upd_same]
    rw [cut_from _ (by rw [List.length_map, pr_len c2]; exact hm), List.map_drop]
  · exact pr_imp (pr_drop c2 _) fun _ _ => ChAt.mono (Same.new hp)
theorem ok_Store_lines (T : Txt K mg A) : Ok P w K mg base CX0 1 A.f_Store_lines P_Store_lines (sp_lines A) := by
  obtain ⟨fd, F, b⟩ := T.F_Store_lines
  refine ⟨fd, b, F.ok sc_Store_lines (fun vs H Q E h => by
    obtain ⟨S, KD, g, l, rfl, _⟩ := h
    rfl) (fun cdv Ar outer s H vs Q E hr h => ?_)⟩
  refine ⟨_, (pss_one (ps_ret (pe_callB call_len_dT (by rfl) T.n_len (by decide +kernel) (pa_cons (pe_fld (pe_dget (hu_of hr) (pe_fld (pv 0) rfl) (pv 1) (fun _ _ => rfl)) rfl) pa_nil)))), ?_⟩
  obtain ⟨S, KD, g, l, rfl, ⟨dS, v1, v2, v3, m, a, dd, L, hS, g1, g2, ⟨kvs, g3, g4⟩⟩, k⟩ := h
  refine ⟨_, rfl, S, _, _, _, _, rfl, hS, T.cl_Store, T.na_Store_kept, rfl, _, rfl, KD, _, rfl, g1, a, _, _, _, _, rfl, g2, T.cl_Kept, T.na_Kept_lines_kept, rfl, L, _, rfl, g3, ?_⟩
  rw [pr_len g4]
  exact k
end
end KR
end
section
set_option maxRecDepth 100000
set_option maxHeartbeats 4000000
/-! keeping: Store_init, put, take, touched, answer_from. -/
namespace KR
open PySem PySem.Spec PyProof.Rows L2
open Vamvsa (Group columnsOf canFrom)
/-- only the store's own things change -/
def Fq (q : SA) (H H' : Hp) : Prop := ∀ b o, H b = some o → b ≠ q.S → b ≠ q.HL → b ≠ q.CL → b ≠ q.KD → H' b = some o
theorem Fq.refl (q : SA) (H : Hp) : Fq q H H := fun _ _ h _ _ _ _ => h
theorem Fq.of {q : SA} {H H' : Hp} (e : Same H H') : Fq q H H' := fun b o hb _ _ _ _ => e b o hb
theorem Fq.trans {q : SA} {H H1 H2 : Hp} (h : Fq q H H1) (g : Fq q H1 H2) : Fq q H H2 := fun b o hb n1 n2 n3 n4 => g b o (h b o hb n1 n2 n3 n4) n1 n2 n3 n4
def pushM (M : Mz) (b : Bool) (r : SRow) (rs : List SRow) : Mz := ⟨M.n, M.hist ++ [rs], M.chs ++ [(b, r)], M.kept⟩
theorem MOk.push {M : Mz} (h : MOk M) {b : Bool} {r : SRow} {rs : List SRow} (h1 : rs.length ≤ 16) (h2 : ∀ x ∈ rs, RowOk M.n x) (h3 : RowOk M.n r) (h4 : M.chs.length < 40) : MOk (pushM M b r rs) := by
  refine ⟨h.n4, ?_, ?_, ?_, ?_, ?_, h.srt⟩
  · show (M.hist ++ [rs]).length = (M.chs ++ [(b, r)]).length + 1
    rw [List.length_append, List.length_append, h.hlen]
    rfl
  · show (M.chs ++ [(b, r)]).length ≤ 40
    rw [List.length_append]
    exact h4
  · intro x hx
    rcases List.mem_append.mp hx with z | z
    · exact h.rows x z
    · rw [List.mem_singleton.mp z]
      exact ⟨h1, h2⟩
  · intro x hx
    rcases List.mem_append.mp hx with z | z
    · exact h.crow x z
    · rw [List.mem_singleton.mp z]
      exact h3
  · intro x hx
    obtain ⟨g1, g2, g3, g4⟩ := h.kg x hx
    refine ⟨g1, g2, g3, ?_⟩
    show _ ≤ (M.chs ++ [(b, r)]).length
    rw [List.length_append]
    omega
theorem St.push {A : Ads} {q : SA} {M : Mz} {H : Hp} (d : St A q M H) {hs cs : List Addr} {p rp t : Addr} {b : Bool} {r : SRow} {rs : List SRow} (hH : H q.HL = some (.lst (hs.map V.ref))) (hC : H q.CL = some (.lst (cs.map V.ref)))
    (hp : RowsAt H p rs) (n1 : p ≠ q.HL) (n2 : p ≠ q.CL) (n3 : p ≠ q.X) (hr : RowAt H rp r) (ok : MOk (pushM M b r rs)) {H1 H2 H3 : Hp} (e1 : H1 = upd H q.HL (.lst (hs.map V.ref ++ [.ref p]))) (ht : H1 t = none)
    (e2 : H2 = upd H1 t (.tup [.int (way b), .ref rp])) (e3 : H3 = upd H2 q.CL (.lst (cs.map V.ref ++ [.ref t]))) : St A q (pushM M b r rs) H3 ∧ Fq q H H3 := by
  obtain ⟨hs2, h2, h3, h4⟩ := d.hist
  obtain ⟨cs2, h5, h6⟩ := d.chs
  obtain ⟨kvs, h7, h8⟩ := d.kept
  have eh : hs2 = hs := by
    rw [hH] at h2
    exact ((List.map_inj_right (f := V.ref) (fun a b h => V.ref.inj h)).mp (HO.lst.inj (Option.some.inj h2))).symm
  have ec : cs2 = cs := by
    rw [hC] at h5
    exact ((List.map_inj_right (f := V.ref) (fun a b h => V.ref.inj h)).mp (HO.lst.inj (Option.some.inj h5))).symm
  subst eh ec
  have tH : H t = none := by
    rw [e1] at ht
    by_cases z : t = q.HL
    · rw [z, upd_same] at ht
      cases ht
    · rwa [upd_ne z] at ht
  have mv0 : ∀ x o, H x = some o → x ≠ q.HL → x ≠ q.CL → H3 x = some o := fun x o hx m1 m2 => by
    rw [e3, upd_ne m2, e2, upd_ne (ne_of_none hx tH), e1, upd_ne m1]
    exact hx
  have mv : ∀ x o, H x = some o → (∀ xs, o ≠ .lst xs) → H3 x = some o := fun x o hx hn => by
    refine mv0 x o hx (fun z => ?_) fun z => ?_
    · rw [z, h2] at hx
      exact hn _ (Option.some.inj hx).symm
    · rw [z, h5] at hx
      exact hn _ (Option.some.inj hx).symm
  have mrow : ∀ a x, RowAt H a x → RowAt H3 a x := fun a x ⟨u, u1, u2⟩ => ⟨u, mv _ _ u1 fun _ z => (nomatch z), mv _ _ u2 fun _ z => (nomatch z)⟩
  have mrows : ∀ a x, RowsAt H a x → a ≠ q.HL → a ≠ q.CL → RowsAt H3 a x := fun a x ⟨as, u1, u2⟩ m1 m2 => ⟨as, mv0 _ _ u1 m1 m2, pr_imp u2 mrow⟩
  have mch : ∀ a c, ChAt H a c → ChAt H3 a c := fun a c ⟨u, u1, u2⟩ => ⟨u, mv _ _ u1 fun _ z => (nomatch z), mrow _ _ u2⟩
  have mk : ∀ a x, KeptAt A H a x → KeptAt A H3 a x := fun a x ⟨k1, u, dd, L, k2, k3, kv, k4, k5⟩ => ⟨k1, u, dd, L, k2, mv _ _ k3 fun _ z => (nomatch z), kv, mv _ _ k4 fun _ z => (nomatch z), pr_imp k5 fun _ _ ⟨g1, g2, g3, g4⟩ => ⟨g1, g2, g3, mv _ _ g4 fun _ z => (nomatch z)⟩⟩
  have hHL3 : H3 q.HL = some (.lst (hs2.map V.ref ++ [.ref p])) := by
    rw [e3, upd_ne d.ne, e2, upd_ne (ne_of_none h2 tH), e1]
    exact upd_same
  have ht3 : H3 t = some (.tup [.int (way b), .ref rp]) := by
    rw [e3, upd_ne (Ne.symm (ne_of_none h5 tH)), e2]
    exact upd_same
  refine ⟨⟨mv _ _ d.self fun _ z => (nomatch z), ⟨hs2 ++ [p], by rw [hHL3, List.map_append]; rfl, ?_, ?_⟩, ⟨cs2 ++ [t], ?_, ?_⟩, ⟨kvs, mv _ _ h7 fun _ z => (nomatch z), pr_imp h8 mk⟩, d.ne, ok, d.ext.imp fun _ hx => mv0 _ _ hx d.xne.1 d.xne.2, d.xne⟩, fun x o hx _ m1 m2 _ => mv0 x o hx m1 m2⟩
  · have : Paired (RowsAt H3) hs2 M.hist := by
      have aux : ∀ {l : List Addr} {m : List (List SRow)}, Paired (RowsAt H) l m → (∀ h ∈ l, h ≠ q.HL ∧ h ≠ q.CL ∧ h ≠ q.X) → Paired (RowsAt H3) l m := by
        intro l m h
        induction h with
        | nil => exact fun _ => .nil
        | cons r t ih => exact fun hm => .cons (mrows _ _ r (hm _ (List.mem_cons_self)).1 (hm _ (List.mem_cons_self)).2.1) (ih fun x hx => hm x (List.mem_cons_of_mem _ hx))
      exact aux h3 h4
    exact pr_app this (.cons (mrows _ _ hp n1 n2) .nil)
  · intro h hh
    rcases List.mem_append.mp hh with z | z
    · exact h4 h z
    · rw [List.mem_singleton.mp z]
      exact ⟨n1, n2, n3⟩
  · rw [e3, upd_same, List.map_append]
    rfl
  · exact pr_app (pr_imp h6 mch) (.cons ⟨rp, ht3, mrow _ _ hr⟩ .nil)
def sp_Store_init (A : Ads) : Sp := fun vs H Q _ => ∃ (a d rl X : Addr) (n : Nat) (rs : List SRow) (xs : List V), H X = some (.lst xs) ∧ vs = [.ref a, .int (n : Int), .ref rl] ∧ H a = some (.ins A.c_Store d []) ∧ RowsAt H rl rs ∧ n ≤ 4 ∧ rs.length ≤ 16 ∧ (∀ r ∈ rs, RowOk n r) ∧
  ∀ H' q, q.S = a → q.X = X → St A q ⟨n, [rs], [], []⟩ H' → (∀ b o, H b = some o → b ≠ a → H' b = some o) → H q.HL = none → H q.CL = none → H q.KD = none → Q .non H'
def sp_sput (A : Ads) : Sp := fun vs H Q _ => ∃ (q : SA) (M : Mz) (p : Addr) (r : SRow), vs = [.ref q.S, .ref p] ∧ St A q M H ∧ RowAt H p r ∧ RowOk M.n r ∧ (nowM M).length < 16 ∧ M.chs.length < 40 ∧
  ∀ H', St A q (pushM M true r (nowM M ++ [r])) H' → Fq q H H' → Q .non H'
def sp_stake (A : Ads) : Sp := fun vs H Q _ => ∃ (q : SA) (M : Mz) (i : Nat) (r : SRow), vs = [.ref q.S, .int (i : Int)] ∧ St A q M H ∧ (nowM M)[i]? = some r ∧ M.chs.length < 40 ∧
  ∀ H', St A q (pushM M false r ((nowM M).eraseIdx i)) H' → Fq q H H' → Q .non H'
def srcI : Option KI → Int
  | none => -1
  | some x => (x.g : Int)
def ansM (M : Mz) (g : Nat) : Option KI → List Group
  | none => ansL M.n g (nowM M)
  | some x => rollL M.n x.g g x.l
def sp_answer_from (A : Ads) : Sp := fun vs H Q _ => ∃ (q : SA) (M : Mz) (src : Option KI) (g : Nat), vs = [.ref q.S, .int (srcI src), .int (g : Int)] ∧ St A q M H ∧ g < 2 ^ M.n ∧ (∀ x, src = some x → findK M.kept x.g = some x ∧ canFrom M.n x.g g = true) ∧
  ∀ H' p, Same H H' → H p = none → AnsAt H' p (ansM M g src) → Q (.ref p) H'
theorem now_ok {M : Mz} (h : MOk M) : (nowM M).length ≤ 16 ∧ ∀ r ∈ nowM M, RowOk M.n r := by
  unfold nowM
  cases z : M.hist.getLast? with
  | none => exact ⟨Nat.zero_le _, fun _ h => (List.not_mem_nil h).elim⟩
  | some rs => exact h.rows rs (List.mem_of_getLast? z)
section
variable {P : Program} {w : World} {K : PySem.W.Frag} {mg : Str → Option Value} {base : Heap} {A : Ads}
theorem ok_Store_put (T : Txt K mg A) : Ok P w K mg base CX0 2 A.f_Store_put P_Store_put (sp_sput A) := by
  obtain ⟨fd, F, b⟩ := T.F_Store_put
  obtain ⟨fd_Store_rows_now, b_Store_rows_now, G_Store_rows_now⟩ := ok_Store_rows_now (P := P) (w := w) (base := base) T
  refine ⟨fd, b, F.ok sc_Store_put (fun vs H Q E h => by
    obtain ⟨q, M, p, r, rfl, _⟩ := h
    rfl) (fun cdv Ar outer s H vs Q E hr h => ?_)⟩
  refine ⟨_, (pss_cons (ps_expr (pe_bm PySem.F.plainAttrs_list PySem.F.slot_list_append PySem.F.type_list_append mt_append (pe_fld (pv 0) rfl) (pa_cons (pe_op op_cat (pe_meth0 (pv 0) T.cl_Store T.m_Store_rows_now G_Store_rows_now (hr.mono (by decide)) b_Store_rows_now .nil pass0) (pe_lst (pa_cons (pv 1) pa_nil))) pa_nil)))
    (pss_one (ps_expr (pe_bm PySem.F.plainAttrs_list PySem.F.slot_list_append PySem.F.type_list_append mt_append (pe_fld (pv 0) rfl) (pa_cons (pe_tup (pa_cons (pe_cI T.c_PUT) (pa_cons (pv 1) pa_nil))) pa_nil))))), ?_⟩
  obtain ⟨q, M, p, r, rfl, d, hp, hr, l16, l40, k⟩ := h
  obtain ⟨hs, hS1, hS2, hS3⟩ := d.hist
  obtain ⟨cs, hC1, hC2⟩ := d.chs
  have eh := pr_len hS2
  have ec := pr_len hC2
  have hl := d.ok.hlen
  refine ⟨_, rfl, q.S, _, _, _, _, rfl, d.self, T.cl_Store, T.na_Store_history, rfl, .inl ⟨rfl, _, SqL.of hS1⟩, ?_⟩
  refine ⟨_, rfl, q.S, _, _, rfl, d.self, rfl, q, M, rfl, d, fun h hh n1 n2 => ?_⟩
  refine ⟨_, rfl, (by show 1 ≤ sizeLine; decide), fun p1 hp1 => ?_⟩
  have e1 := Same.new (o := .lst [V.ref p]) hp1
  obtain ⟨as, ha1, ha2⟩ := hh
  refine ⟨h, p1, _, _, rfl, rfl, e1 _ _ ha1, upd_same, sz_le (by rw [List.length_map, pr_len ha2]; show _ + 1 ≤ _; omega), fun p2 hp2 => ?_⟩
  have e2 := e1.trans (Same.new (o := .lst (as.map V.ref ++ [V.ref p])) hp2)
  have hp2v : (upd (upd H p1 (.lst [V.ref p])) p2 (.lst (as.map V.ref ++ [V.ref p]))) p2 = some (.lst (as.map V.ref ++ [V.ref p])) := upd_same
  have hp2H : H p2 = none := e1.free hp2
  generalize upd (upd H p1 (.lst [V.ref p])) p2 (.lst (as.map V.ref ++ [V.ref p])) = H2 at e2 hp2v ⊢
  have d2 := d.mono e2
  have hrows : RowsAt H2 p2 (nowM M ++ [r]) := ⟨as ++ [p], by rw [hp2v, List.map_append]; rfl, pr_app (pr_imp ha2 fun _ _ => RowAt.mono e2) (.cons (hp.mono e2) .nil)⟩
  refine ⟨q.HL, _, _, rfl, rfl, e2 _ _ hS1, sz_lt (by have := d.ok.c40; rw [List.length_map, eh]; omega), ?_⟩
  have nS : q.S ≠ q.HL := ne_of d.self hS1 (fun z => nomatch z)
  have hself3 : (upd H2 q.HL (.lst (hs.map V.ref ++ [.ref p2]))) q.S = _ := (upd_ne nS).trans d2.self
  have hC3 : (upd H2 q.HL (.lst (hs.map V.ref ++ [.ref p2]))) q.CL = some (.lst (cs.map V.ref)) := (upd_ne (Ne.symm d.ne)).trans (e2 _ _ hC1)
  refine ⟨_, rfl, q.S, _, _, _, _, rfl, hself3, T.cl_Store, T.na_Store_changes, rfl, .inl ⟨rfl, _, SqL.of hC3⟩, ?_⟩
  refine ⟨_, rfl, (by show 2 ≤ sizeLine; decide), fun t ht => ?_⟩
  refine ⟨q.CL, _, _, rfl, rfl, Same.new ht _ _ hC3, sz_lt (by rw [List.length_map, ec]; omega), ?_⟩
  have nw := now_ok d.ok
  have ok := d.ok.push (b := true) (r := r) (rs := nowM M ++ [r]) (by rw [List.length_append]; exact l16) (fun x hx => by
    rcases List.mem_append.mp hx with z | z
    · exact nw.2 x z
    · rw [List.mem_singleton.mp z]; exact hr) hr l40
  obtain ⟨s1, s2⟩ := d2.push (e2 _ _ hS1) (e2 _ _ hC1) hrows (Ne.symm (ne_of_none hS1 hp2H)) (Ne.symm (ne_of_none hC1 hp2H)) (d.ext.elim fun _ hx => Ne.symm (ne_of_none hx hp2H)) (hp.mono e2) ok rfl ht rfl rfl
  exact k _ s1 ((Fq.of e2).trans s2)
theorem ok_Store_take (T : Txt K mg A) : Ok P w K mg base CX0 2 A.f_Store_take P_Store_take (sp_stake A) := by
  obtain ⟨fd, F, b⟩ := T.F_Store_take
  obtain ⟨fd_Store_rows_now, b_Store_rows_now, G_Store_rows_now⟩ := ok_Store_rows_now (P := P) (w := w) (base := base) T
  refine ⟨fd, b, F.ok sc_Store_take (fun vs H Q E h => by
    obtain ⟨q, M, i, r, rfl, _⟩ := h
    rfl) (fun cdv Ar outer s H vs Q E hr h => ?_)⟩
  refine ⟨_, (pss_cons (ps_set (i := 2) sc_Store_take.nd rfl (by first | exact Or.inl rfl | exact Or.inr rfl) (pe_meth0 (pv 0) T.cl_Store T.m_Store_rows_now G_Store_rows_now (hr.mono (by decide)) b_Store_rows_now .nil pass0))
    (pss_cons (ps_expr (pe_bm PySem.F.plainAttrs_list PySem.F.slot_list_append PySem.F.type_list_append mt_append (pe_fld (pv 0) rfl) (pa_cons (pe_op op_cat (pe_slice sl_list (pv 2) po_none (po_some (pv 1))) (pe_slice sl_list (pv 2) (po_some (pe_op op_add (pv 1) pe_int)) po_none)) pa_nil)))
    (pss_one (ps_expr (pe_bm PySem.F.plainAttrs_list PySem.F.slot_list_append PySem.F.type_list_append mt_append (pe_fld (pv 0) rfl) (pa_cons (pe_tup (pa_cons (pe_cI T.c_TAKEN_keeping) (pa_cons (pe_ix ix_list (pv 2) (pv 1) (fun _ _ => rfl)) pa_nil))) pa_nil)))))), ?_⟩
  obtain ⟨q, M, i, r, rfl, d, hi, l40, k⟩ := h
  obtain ⟨hs, hS1, hS2, hS3⟩ := d.hist
  obtain ⟨cs, hC1, hC2⟩ := d.chs
  have eh := pr_len hS2
  have ec := pr_len hC2
  have hl := d.ok.hlen
  have nw := now_ok d.ok
  have ilt : i < (nowM M).length := (List.getElem?_eq_some_iff.mp hi).1
  refine ⟨_, rfl, q.S, _, _, rfl, d.self, rfl, q, M, rfl, d, fun h hh n1 n2 => ?_⟩
  obtain ⟨as, ha1, ha2⟩ := hh
  have el := pr_len ha2
  obtain ⟨rp, hrp, hrow⟩ := pr_at ha2 hi
  refine ⟨_, rfl, q.S, _, _, _, _, rfl, d.self, T.cl_Store, T.na_Store_history, rfl, .inl ⟨rfl, _, SqL.of hS1⟩, ?_⟩
  refine ⟨_, rfl, _, rfl, _, rfl, h, _, rfl, SqL.of ha1, fun p1 hp1 => ?_⟩
  rw [cut_to _ (by rw [List.length_map]; omega), ← List.map_take]
  have e1 := Same.new (o := .lst ((as.take i).map V.ref)) hp1
  refine ⟨_, rfl, _, rfl, _, _, rfl, rfl, _, rfl, h, _, rfl, SqL.of (e1 _ _ ha1), fun p1' hp1' => ?_⟩
  have ecut : cutV (as.map V.ref) (some ((i : Int) + 1)) none = (as.drop (i + 1)).map V.ref := by
    have := cut_from (as.map V.ref) (i := i + 1) (by rw [List.length_map]; omega)
    rw [← List.map_drop] at this
    exact this
  rw [ecut]
  have e1' := Same.new (o := .lst ((as.drop (i + 1)).map V.ref)) hp1'
  refine ⟨p1, p1', _, _, rfl, rfl, e1' _ _ upd_same, upd_same, sz_le (by rw [List.length_map, List.length_map, List.length_take, List.length_drop]; omega), fun p2 hp2 => ?_⟩
  have e12 := e1.trans e1'
  have e2 := e12.trans (Same.new (o := .lst ((as.take i).map V.ref ++ (as.drop (i + 1)).map V.ref)) hp2)
  have hp2v : (upd (upd (upd H p1 (.lst ((as.take i).map V.ref))) p1' (.lst ((as.drop (i + 1)).map V.ref))) p2 (.lst ((as.take i).map V.ref ++ (as.drop (i + 1)).map V.ref))) p2 = some (.lst ((as.take i).map V.ref ++ (as.drop (i + 1)).map V.ref)) := upd_same
  have hp2H : H p2 = none := e12.free hp2
  generalize upd (upd (upd H p1 (.lst ((as.take i).map V.ref))) p1' (.lst ((as.drop (i + 1)).map V.ref))) p2 (.lst ((as.take i).map V.ref ++ (as.drop (i + 1)).map V.ref)) = H2 at e2 hp2v ⊢
  have d2 := d.mono e2
  have hrows : RowsAt H2 p2 ((nowM M).eraseIdx i) := by
    refine ⟨as.take i ++ as.drop (i + 1), by rw [hp2v, List.map_append], ?_⟩
    rw [List.eraseIdx_eq_take_drop_succ]
    exact pr_app (pr_imp (pr_take ha2 _) fun _ _ => RowAt.mono e2) (pr_imp (pr_drop ha2 _) fun _ _ => RowAt.mono e2)
  refine ⟨q.HL, _, _, rfl, rfl, e2 _ _ hS1, sz_lt (by have := d.ok.c40; rw [List.length_map, eh]; omega), ?_⟩
  have nS : q.S ≠ q.HL := ne_of d.self hS1 (fun z => nomatch z)
  have hself3 : (upd H2 q.HL (.lst (hs.map V.ref ++ [.ref p2]))) q.S = _ := (upd_ne nS).trans d2.self
  have hC3 : (upd H2 q.HL (.lst (hs.map V.ref ++ [.ref p2]))) q.CL = some (.lst (cs.map V.ref)) := (upd_ne (Ne.symm d.ne)).trans (e2 _ _ hC1)
  have ha3 : (upd H2 q.HL (.lst (hs.map V.ref ++ [.ref p2]))) h = some (.lst (as.map V.ref)) := (upd_ne n1).trans (e2 _ _ ha1)
  refine ⟨_, rfl, q.S, _, _, _, _, rfl, hself3, T.cl_Store, T.na_Store_changes, rfl, .inl ⟨rfl, _, SqL.of hC3⟩, ?_⟩
  have hrp' : (as.map V.ref)[i]? = some (V.ref rp) := by rw [List.getElem?_map, hrp]; rfl
  refine ⟨_, rfl, _, rfl, h, _, _, _, rfl, rfl, SqL.of ha3, at_of rfl hrp', (by show 2 ≤ sizeLine; decide), fun t ht => ?_⟩
  refine ⟨q.CL, _, _, rfl, rfl, Same.new ht _ _ hC3, sz_lt (by rw [List.length_map, ec]; omega), ?_⟩
  have ok := d.ok.push (b := false) (r := r) (rs := (nowM M).eraseIdx i) (by have := List.length_eraseIdx_le (nowM M) i; omega) (fun x hx => nw.2 x (List.mem_of_mem_eraseIdx hx)) (nw.2 r (List.mem_of_getElem? hi)) l40
  obtain ⟨s1, s2⟩ := d2.push (e2 _ _ hS1) (e2 _ _ hC1) hrows (Ne.symm (ne_of_none hS1 hp2H)) (Ne.symm (ne_of_none hC1 hp2H)) (d.ext.elim fun _ hx => Ne.symm (ne_of_none hx hp2H)) (hrow.mono e2) ok rfl ht rfl rfl
  exact k _ s1 ((Fq.of e2).trans s2)
theorem ok_Store_answer_from (T : Txt K mg A) : Ok P w K mg base CX0 4 A.f_Store_answer_from P_Store_answer_from (sp_answer_from A) := by
  obtain ⟨fd, F, b⟩ := T.F_Store_answer_from
  obtain ⟨fd_Store_rows_now, b_Store_rows_now, G_Store_rows_now⟩ := ok_Store_rows_now (P := P) (w := w) (base := base) T
  obtain ⟨fd_answer_of, b_answer_of, G_answer_of⟩ := ok_answer_of (P := P) (w := w) (base := base) T
  obtain ⟨fd_worked_out, b_worked_out, G_worked_out⟩ := ok_worked_out (P := P) (w := w) (base := base) T
  refine ⟨fd, b, F.ok sc_Store_answer_from (fun vs H Q E h => by
    obtain ⟨q, M, src, g, rfl, _⟩ := h
    rfl) (fun cdv Ar outer s H vs Q E hr h => ?_)⟩
  refine ⟨_, (pss_cons (ps_if (pt_cmpR op_eq (pv 1) (pe_cI T.c_BY_TABLE) (nomark _)) (pss_one (ps_ret (pe_call G_answer_of (hr.mono (by decide)) rfl T.g_answer_of T.k_answer_of b_answer_of .nil pass0 (pa_cons (pe_meth0 (pv 0) T.cl_Store T.m_Store_rows_now G_Store_rows_now (hr.mono (by decide)) b_Store_rows_now .nil pass0) (pa_cons (pv 2) pa_nil))))) pss_nil)
    (pss_one (ps_ret (pe_call G_worked_out (hr.mono (by decide)) rfl T.g_worked_out T.k_worked_out b_worked_out .nil pass0 (pa_cons (pe_fld (pe_dget (hu_of hr) (pe_fld (pv 0) rfl) (pv 1) (fun _ _ => rfl)) rfl) (pa_cons (pv 1) (pa_cons (pv 2) pa_nil))))))), ?_⟩
  obtain ⟨q, M, src, g, rfl, d, hg, hsrc, k⟩ := h
  have nw := now_ok d.ok
  have n4 := d.ok.n4
  refine ⟨_, rfl, rfl, _, rfl, ?_⟩
  cases src with
  | none =>
    refine iteT' (decide_eq_true rfl) ?_
    refine ⟨_, rfl, q.S, _, _, rfl, d.self, rfl, q, M, rfl, d, fun h hh n1 n2 => ?_⟩
    exact ⟨_, rfl, h, nowM M, g, M.n, rfl, hh, nw.2, by omega, n4, hg, fun H' p e hp ha => k H' p e hp ha⟩
  | some x =>
    obtain ⟨hx, hc⟩ := hsrc x rfl
    obtain ⟨a, dd, L, g1, g2, g3⟩ := d.get hx
    obtain ⟨k1, k2, k3, k4⟩ := d.ok.kg x (findK_mem hx).1
    refine iteF' (decide_eq_false fun z => ?_) ?_
    · have z2 : ((x.g : Nat) : Int) = -1 := V.int.inj z
      omega
    refine ⟨_, rfl, q.S, _, _, _, _, rfl, d.self, T.cl_Store, T.na_Store_kept, rfl, _, rfl, q.KD, _, rfl, g1, a, _, _, _, _, rfl, g2, T.cl_Kept, T.na_Kept_lines_kept, rfl, _, rfl, _, rfl, ?_⟩
    exact ⟨L, x.l, x.g, g, M.n, rfl, g3, k2, by omega, n4, k1, hg, hc, fun H' p e hp ha => k H' p e hp ha⟩
end
end KR
end
section
set_option maxRecDepth 100000
set_option maxHeartbeats 4000000
/-! keeping: Store_init, touched, refresh. -/
namespace KR
open PySem PySem.Spec PyProof.Rows L2
open Vamvsa (Group columnsOf canFrom)
def keysL (n g : Nat) (cs : List (Bool × SRow)) : List (List Nat) := cs.map fun c => Vamvsa.keyOf n g c.2.vs
def touchL (n g : Nat) (cs : List (Bool × SRow)) : Nat := (keysL n g cs).eraseDups.length
def refL (n g : Nat) (l : List Group) (cs : List (Bool × SRow)) : List Group := cs.foldl (fun l c => wm l (Vamvsa.keyOf n g c.2.vs) (way c.1 * c.2.m) (way c.1)) l
theorem refL_snoc (n g : Nat) (l : List Group) (cs : List (Bool × SRow)) (c : Bool × SRow) : refL n g l (cs ++ [c]) = wm (refL n g l cs) (Vamvsa.keyOf n g c.2.vs) (way c.1 * c.2.m) (way c.1) := by
  unfold refL
  rw [List.foldl_append]
  rfl
theorem refL_ok {n g : Nat} : ∀ (cs : List (Bool × SRow)) (l : List Group), KOk (columnsOf n g).length l → (∀ c ∈ cs, RowOk n c.2) →
    KOk (columnsOf n g).length (refL n g l cs) ∧ (refL n g l cs).length ≤ l.length + cs.length
  | [], l, h, _ => ⟨h, Nat.le_refl _⟩
  | c :: cs, l, h, hc => by
    have hr := hc c (List.mem_cons_self)
    have h2 := h.wm (keyOf_len n g c.2.vs) (keyOf_dig (g := g) hr) (way c.1 * c.2.m) (way c.1)
    have h3 := wm_len l (Vamvsa.keyOf n g c.2.vs) (way c.1 * c.2.m) (way c.1)
    obtain ⟨a, b⟩ := refL_ok cs _ h2 (fun x hx => hc x (List.mem_cons_of_mem _ hx))
    refine ⟨a, ?_⟩
    show (refL n g (wm l (Vamvsa.keyOf n g c.2.vs) (way c.1 * c.2.m) (way c.1)) cs).length ≤ _
    rw [List.length_cons]
    omega
def replK (ks : List KI) (x : KI) : List KI := ks.map fun y => if y.g = x.g then x else y
theorem kept_put {A : Ads} {H : Hp} {x : KI} {v : V} {a d L : Addr} (hv : v = .ref a) (ha : H a = some (.ins A.c_Kept d [("lines_kept", .ref L), ("made", .int (x.made : Int))])) (hL : AnsAt H L x.l) {kvs : List (L2.Key × V)} {ks : List KI}
    (h : Paired (KeptAt A H) kvs ks) : Paired (KeptAt A H) (kvs.map fun kv => if kv.1 = .inl (x.g : Int) then (kv.1, v) else kv) (replK ks x) := by
  unfold replK
  induction h with
  | nil => exact .nil
  | @cons p y ps ys r t ih =>
    refine .cons ?_ ih
    show KeptAt A H (if p.1 = .inl (x.g : Int) then (p.1, v) else p) (if y.g = x.g then x else y)
    by_cases e : y.g = x.g
    · rw [if_pos e, if_pos (by rw [r.1, e])]
      exact ⟨by rw [r.1, e], a, d, L, hv, ha, hL⟩
    · rw [if_neg e, if_neg (show ¬ p.1 = .inl (x.g : Int) from fun z => e (Int.ofNat.inj (Sum.inl.inj (r.1.symm.trans z))))]
      exact r
theorem kept_any {A : Ads} {H : Hp} {kvs : List (L2.Key × V)} {ks : List KI} (h : Paired (KeptAt A H) kvs ks) (g : Nat) :
    (kvs.any fun kv => decide (kv.1 = .inl (g : Int))) = (findK ks g).isSome := by
  unfold findK
  induction h with
  | nil => rfl
  | @cons p x ps xs r t ih =>
    rw [List.any_cons, ih, List.find?_cons]
    by_cases e : x.g = g
    · rw [decide_eq_true e, decide_eq_true (by rw [r.1, e])]
      rfl
    · rw [decide_eq_false e, decide_eq_false (show ¬ p.1 = .inl (g : Int) from fun z => e (Int.ofNat.inj (Sum.inl.inj (r.1.symm.trans z))))]
      rfl
def sp_touched (A : Ads) : Sp := fun vs H Q _ => ∃ (q : SA) (M : Mz) (g : Nat) (c : Addr) (cs : List (Bool × SRow)), vs = [.ref q.S, .int (g : Int), .ref c] ∧ St A q M H ∧ g < 2 ^ M.n ∧ ChsAt H c cs ∧ cs.length ≤ 40 ∧ (∀ x ∈ cs, RowOk M.n x.2) ∧
  ∀ H', Same H H' → Q (.int (touchL M.n g cs : Nat)) H'
def sp_srefresh (A : Ads) : Sp := fun vs H Q _ => ∃ (q : SA) (M : Mz) (x : KI), vs = [.ref q.S, .int (x.g : Int)] ∧ St A q M H ∧ findK M.kept x.g = some x ∧
  (∀ i c, (M.chs.drop x.made)[i]? = some c → 0 ≤ ((oldL (refL M.n x.g x.l ((M.chs.drop x.made).take i)) (Vamvsa.keyOf M.n x.g c.2.vs)).n : Int) + way c.1) ∧
  (refL M.n x.g x.l (M.chs.drop x.made)).length ≤ 60 ∧
  ∀ H', St A q { M with kept := replK M.kept ⟨x.g, refL M.n x.g x.l (M.chs.drop x.made), M.chs.length⟩ } H' → Fq q H H' → Q .non H'
theorem toI_inj {a b : List Nat} (h : a.map Int.ofNat = b.map Int.ofNat) : a = b := (List.map_inj_right (f := Int.ofNat) (fun a b h => Int.ofNat.inj h)).mp h
theorem nodup_dups {α : Type} [BEq α] [LawfulBEq α] : ∀ (n : Nat) (l : List α), l.length ≤ n → l.eraseDups.Nodup
  | _, [], _ => List.nodup_nil
  | 0, a :: as, h => absurd h (Nat.not_succ_le_zero _)
  | n + 1, a :: as, h => by
    rw [List.eraseDups_cons]
    have hl := List.length_filter_le (fun b => !b == a) as
    rw [List.length_cons] at h
    refine List.nodup_cons.mpr ⟨fun z => ?_, nodup_dups n _ (by omega)⟩
    have z2 := (List.mem_filter.mp (List.mem_eraseDups.mp z)).2
    rw [beq_self_eq_true] at z2
    cases z2
theorem dups_len {ks : List (List Nat)} {L : List (List Int)} (nd : L.Nodup) (h1 : ∀ x ∈ L, ∃ k ∈ ks, x = k.map Int.ofNat) (h2 : ∀ k ∈ ks, k.map Int.ofNat ∈ L) : L.length = ks.eraseDups.length := by
  have nd2 : (ks.eraseDups.map fun k => k.map Int.ofNat).Nodup := by
    have : ks.eraseDups.Nodup := nodup_dups _ ks (Nat.le_refl _)
    exact List.Pairwise.map _ (fun a b h z => h (toI_inj z)) this
  have p : L.Perm (ks.eraseDups.map fun k => k.map Int.ofNat) := (List.perm_ext_iff_of_nodup nd nd2).mpr fun x => by
    constructor
    · intro hx
      obtain ⟨k, hk, e⟩ := h1 x hx
      exact List.mem_map.mpr ⟨k, List.mem_eraseDups.mpr hk, e.symm⟩
    · intro hx
      obtain ⟨k, hk, e⟩ := List.mem_map.mp hx
      rw [← e]
      exact h2 k (List.mem_eraseDups.mp hk)
  rw [p.length_eq, List.length_map]
def KeyAt (H : Hp) (a : Addr) (k : List Nat) : Prop := H a = some (.tup (vI k))
theorem pr_zip {α β : Type} {F : α → β → Prop} {l : List α} {m : List β} (h : Paired F l m) : (l.zip m).map (·.1) = l ∧ (l.zip m).map (·.2) = m ∧ ∀ p ∈ l.zip m, F p.1 p.2 := by
  induction h with
  | nil => exact ⟨rfl, rfl, fun _ h => (List.not_mem_nil h).elim⟩
  | cons r t ih =>
    obtain ⟨a, b, c⟩ := ih
    refine ⟨by rw [List.zip_cons_cons, List.map_cons, a], by rw [List.zip_cons_cons, List.map_cons, b], fun p hp => ?_⟩
    rw [List.zip_cons_cons] at hp
    rcases List.mem_cons.mp hp with z | z
    · rw [z]; exact r
    · exact c p z
section
variable {P : Program} {w : World} {K : PySem.W.Frag} {mg : Str → Option Value} {base : Heap} {A : Ads}
theorem ok_Store_init (T : Txt K mg A) : Ok P w K mg base CX0 1 A.f_Store_init P_Store_init (sp_Store_init A) := by
  obtain ⟨fd, F, b⟩ := T.F_Store_init
  refine ⟨fd, b, F.ok sc_Store_init (fun vs H Q E h => by
    obtain ⟨a, d, rl, X, n, rs, xs, _, rfl, _⟩ := h
    rfl) (fun cdv Ar outer s H vs Q E hr h => ?_)⟩
  refine ⟨_, (pss_cons (ps_fld (pv 0) (pv 1) rfl)
    (pss_cons (ps_fld (pv 0) (pe_lst (pa_cons (pe_callTy call_list_of (by rfl) T.n_list (by decide +kernel) (pa_cons (pv 2) pa_nil)) pa_nil)) rfl)
    (pss_cons (ps_fld (pv 0) (pe_lst pa_nil) rfl)
    (pss_one (ps_fld (pv 0) pe_dnewK rfl))))), ?_⟩
  obtain ⟨a, d, rl, X, n, rs, xs, hX, rfl, ha, hr, n4, l16, rok, k⟩ := h
  refine ⟨_, rfl, _, rfl, a, _, _, _, rfl, ha, T.cl_Store, T.na_Store_many, (by show 0 < 1000; decide), ?_⟩
  obtain ⟨H1, eH1⟩ : ∃ H1, H1 = upd H a (.ins A.c_Store d (putF "many" (.int (n : Int)) [])) := ⟨_, rfl⟩
  have a1 : H1 a = some (.ins A.c_Store d [("many", .int (n : Int))]) := by rw [eH1]; exact upd_same
  have f1 : ∀ b o, H b = some o → b ≠ a → H1 b = some o := fun b o hb nb => by rw [eH1, upd_ne nb]; exact hb
  have z1 : ∀ b, H1 b = none → H b = none := fun b hb => by
    by_cases e : b = a
    · rw [e, a1] at hb; cases hb
    · rw [eH1, upd_ne e] at hb; exact hb
  have rl1 : RowsAt H1 rl rs := by
    obtain ⟨as, r1, r2⟩ := hr
    have mv : ∀ b o, H b = some o → (∀ C dx fs, o ≠ .ins C dx fs) → H1 b = some o := fun b o hb hn => f1 b o hb fun z => by rw [z, ha] at hb; exact hn _ _ _ (Option.some.inj hb).symm
    exact ⟨as, mv _ _ r1 fun _ _ _ z => (nomatch z), pr_imp r2 fun _ _ ⟨u, u1, u2⟩ => ⟨u, mv _ _ u1 fun _ _ _ z => (nomatch z), mv _ _ u2 fun _ _ _ z => (nomatch z)⟩⟩
  rw [← eH1]
  clear eH1
  obtain ⟨as, r1, r2⟩ := rl1
  refine ⟨_, rfl, rl, _, rfl, .inl (SqL.of r1), fun l1 hl1 => ?_⟩
  have e2 := Same.new (o := .lst (as.map V.ref)) hl1
  refine ⟨(by show 1 ≤ sizeLine; decide), fun hl hhl => ?_⟩
  have e3 := e2.trans (Same.new (o := .lst [V.ref l1]) hhl)
  have l13 : (upd (upd H1 l1 (.lst (as.map V.ref))) hl (.lst [V.ref l1])) l1 = some (.lst (as.map V.ref)) := Same.new hhl _ _ upd_same
  have hl3 : (upd (upd H1 l1 (.lst (as.map V.ref))) hl (.lst [V.ref l1])) hl = some (.lst [V.ref l1]) := upd_same
  have nlh : l1 ≠ hl := ne_of_none (H := upd H1 l1 (.lst (as.map V.ref))) upd_same hhl
  have hl0 := e2.free hhl
  refine ⟨_, rfl, a, _, _, _, rfl, e3 _ _ a1, T.cl_Store, T.na_Store_history, (by show 1 < 1000; decide), ?_⟩
  obtain ⟨H3, eH3⟩ : ∃ H3, H3 = upd (upd H1 l1 (.lst (as.map V.ref))) hl (.lst [V.ref l1]) := ⟨_, rfl⟩
  rw [← eH3] at e3 l13 hl3 ⊢
  clear eH3
  have na : ∀ b, H1 b = none → b ≠ a := fun b hb z => by rw [z, a1] at hb; cases hb
  obtain ⟨H4, eH4⟩ : ∃ H4, H4 = upd H3 a (.ins A.c_Store d (putF "history" (.ref hl) [("many", .int (n : Int))])) := ⟨_, rfl⟩
  have a4 : H4 a = some (.ins A.c_Store d [("many", .int (n : Int)), ("history", .ref hl)]) := by rw [eH4]; exact upd_same
  have f4 : ∀ b o, H3 b = some o → b ≠ a → H4 b = some o := fun b o hb nb => by rw [eH4, upd_ne nb]; exact hb
  have z4 : ∀ b, H4 b = none → H3 b = none := fun b hb => by
    by_cases e : b = a
    · rw [e, a4] at hb; cases hb
    · rw [eH4, upd_ne e] at hb; exact hb
  rw [← eH4]
  clear eH4
  refine ⟨(by show 0 ≤ sizeLine; decide), fun cl hcl => ?_⟩
  have e5 := Same.new (o := .lst []) hcl
  refine ⟨_, rfl, a, _, _, _, rfl, e5 _ _ a4, T.cl_Store, T.na_Store_changes, (by show 2 < 1000; decide), ?_⟩
  have ncl : cl ≠ a := Ne.symm (ne_of_none a4 hcl)
  obtain ⟨H6, eH6⟩ : ∃ H6, H6 = upd (upd H4 cl (.lst [])) a (.ins A.c_Store d (putF "changes" (.ref cl) [("many", .int (n : Int)), ("history", .ref hl)])) := ⟨_, rfl⟩
  have a6 : H6 a = some (.ins A.c_Store d [("many", .int (n : Int)), ("history", .ref hl), ("changes", .ref cl)]) := by rw [eH6]; exact upd_same
  have f6 : ∀ b o, H4 b = some o → b ≠ a → H6 b = some o := fun b o hb nb => by rw [eH6, upd_ne nb]; exact e5 _ _ hb
  have c6 : H6 cl = some (.lst []) := by rw [eH6, upd_ne ncl]; exact upd_same
  have z6 : ∀ b, H6 b = none → H4 b = none := fun b hb => by
    by_cases e : b = a
    · rw [e, a6] at hb; cases hb
    · rw [eH6, upd_ne e] at hb; exact e5.free hb
  rw [← eH6]
  clear eH6
  refine fun kd hkd => ?_
  have e7 := Same.new (o := .dK []) hkd
  refine ⟨_, rfl, a, _, _, _, rfl, e7 _ _ a6, T.cl_Store, T.na_Store_kept, (by show 3 < 1000; decide), ?_⟩
  have nkd : kd ≠ a := Ne.symm (ne_of_none a6 hkd)
  have old : ∀ b o, H1 b = some o → b ≠ a → upd (upd H6 kd (.dK [])) a (.ins A.c_Store d (putF "kept" (.ref kd) [("many", .int (n : Int)), ("history", .ref hl), ("changes", .ref cl)])) b = some o := fun b o hb nb => by
    rw [upd_ne nb]
    exact e7 _ _ (f6 _ _ (f4 _ _ (e3 _ _ hb) nb) nb)
  have new3 : ∀ b o, H3 b = some o → b ≠ a → upd (upd H6 kd (.dK [])) a (.ins A.c_Store d (putF "kept" (.ref kd) [("many", .int (n : Int)), ("history", .ref hl), ("changes", .ref cl)])) b = some o := fun b o hb nb => by
    rw [upd_ne nb]
    exact e7 _ _ (f6 _ _ (f4 _ _ hb nb) nb)
  have nclh : cl ≠ hl := fun z => by
    have := f4 _ _ hl3 (na _ hl0)
    rw [← z, hcl] at this
    cases this
  have ncl1 : cl ≠ l1 := fun z => by
    have := f4 _ _ l13 (na _ hl1)
    rw [← z, hcl] at this
    cases this
  have cl1 : H1 cl = none := e3.free (z4 _ hcl)
  have kd1 : H1 kd = none := e3.free (z4 _ (z6 _ hkd))
  have naX : X ≠ a := ne_of hX ha fun z => nomatch z
  have hX1 := f1 _ _ hX naX
  refine k _ ⟨a, d, hl, cl, kd, X⟩ rfl rfl ⟨upd_same, ⟨[l1], new3 _ _ hl3 (na _ hl0), .cons ⟨as, new3 _ _ l13 (na _ hl1), ?_⟩ .nil, fun h hh => ?_⟩, ⟨[], ?_, .nil⟩, ⟨[], ?_, .nil⟩, Ne.symm nclh, ?_, ⟨xs, old _ _ hX1 naX⟩, ne_of_none hX1 hl0, ne_of_none hX1 cl1⟩ (fun b o hb nb => old _ _ (f1 _ _ hb nb) nb) (z1 _ hl0) (z1 _ cl1) (z1 _ kd1)
  · have mv : ∀ b o, H1 b = some o → (∀ C dx fs, o ≠ .ins C dx fs) → _ := fun b o hb hn => old b o hb fun z => by rw [z, a1] at hb; exact hn _ _ _ (Option.some.inj hb).symm
    exact pr_imp r2 fun _ _ ⟨u, u1, u2⟩ => ⟨u, mv _ _ u1 fun _ _ _ z => (nomatch z), mv _ _ u2 fun _ _ _ z => (nomatch z)⟩
  · rw [List.mem_singleton.mp hh]
    exact ⟨nlh, Ne.symm ncl1, Ne.symm (ne_of_none hX1 hl1)⟩
  · exact (upd_ne ncl).trans (e7 _ _ c6)
  · exact (upd_ne nkd).trans upd_same
  · refine ⟨n4, rfl, Nat.zero_le _, fun x hx => ?_, fun _ h => (List.not_mem_nil h).elim, fun _ h => (List.not_mem_nil h).elim, List.Pairwise.nil⟩
    rw [List.mem_singleton.mp hx]
    exact ⟨l16, rok⟩
theorem ok_Store_touched (T : Txt K mg A) : Ok P w K mg base CX0 3 A.f_Store_touched P_Store_touched (sp_touched A) := by
  obtain ⟨fd, F, b⟩ := T.F_Store_touched
  obtain ⟨fd_group_of, b_group_of, G_group_of⟩ := ok_group_of (P := P) (w := w) (base := base) T
  refine ⟨fd, b, F.ok sc_Store_touched (fun vs H Q E h => by
    obtain ⟨q, M, g, c, cs, rfl, _⟩ := h
    rfl) (fun cdv Ar outer s H vs Q E hr h => ?_)⟩
  refine ⟨_, (pss_one (ps_ret (pe_callB call_lenSetT (by rfl) T.n_len (by decide +kernel) (pa_cons (pe_callTy (cr_setOfT rfl hr.units) (by rfl) T.n_set (by decide +kernel) (pa_cons (pe_lc (own := [("way", 3), ("row", 4)]) rfl sc_Store_touched.nd (pi_list (pv 2)) (blkOk_by (own := [("way", 3), ("row", 4)]) (N := N_Store_touched) (sc := defScope s_Store_touched) (by decide +kernel)) (fun _ _ _ _ _ => (pg_tupK (K := K) (n := 2) rfl (pgs_cons (pg_name (i := 3) sc_Store_touched.nd rfl (by first | exact Or.inl rfl | exact Or.inr rfl)) (pgs_cons (pg_name (i := 4) sc_Store_touched.nd rfl (by first | exact Or.inl rfl | exact Or.inr rfl)) pgs_nil)))) (fun _ _ _ _ _ => pts_nil) (fun _ _ _ _ _ => (pe_call G_group_of (hr.mono (by decide)) rfl T.g_group_of T.k_group_of b_group_of .nil pass0 (pa_cons (pe_ix (ix_tupK (K := K)) (pv 4) pe_int (fun _ _ => rfl)) (pa_cons (pv 1) pa_nil))))) pa_nil)) pa_nil)))), ?_⟩
  obtain ⟨q, M, g, c, cs, rfl, d, hg, ⟨as, hc1, hc2⟩, l40, rok, k⟩ := h
  have n4 := d.ok.n4
  have ela := pr_len hc2
  refine ⟨_, rfl, c, rfl, ⟨_, SqL.of hc1⟩, fun D hD => ?_⟩
  refine lc_list (K := K) (a := c) (xs := as.map V.ref) (fun i H' => Same H H' ∧ ∃ bs : List Addr, H' D = some (.lst (bs.map V.ref)) ∧ Paired (KeyAt H') bs ((keysL M.n g cs).take i)) ⟨Same.new hD, [], upd_same, .nil⟩ (fun i H' _ h => SqL.of (h.1 _ _ hc1)) ?_ ?_
  · rintro i x H' hi ⟨e, bs, hb1, hb2⟩
    obtain ⟨a, hai, rfl⟩ : ∃ a, as[i]? = some a ∧ x = V.ref a := by
      rw [List.getElem?_map] at hi
      cases z : as[i]? with
      | none => rw [z] at hi; cases hi
      | some a => rw [z] at hi; exact ⟨a, rfl, (Option.some.inj hi).symm⟩
    obtain ⟨cc, hci, p, hcc1, u, hu1, hu2⟩ := pr_at' hc2 hai
    have ro := rok cc (List.mem_of_getElem? hci)
    refine ⟨a, _, rfl, SqT.of (e _ _ hcc1), rfl, ?_⟩
    refine ⟨_, _, rfl, _, _, rfl, rfl, rfl, ?_⟩
    refine yes_of (iteT ?_)
    refine ⟨_, rfl, p, _, _, _, rfl, rfl, SqT.of (e _ _ hu1), at_of (j := 0) rfl rfl, _, rfl, ?_⟩
    refine ⟨u, cc.2.vs, g, M.n, rfl, e _ _ hu2, ro.1, n4, hg, fun H2 kp e2 hkp hk2 => ?_⟩
    have ki : (keysL M.n g cs)[i]? = some (Vamvsa.keyOf M.n g cc.2.vs) := by
      unfold keysL
      rw [List.getElem?_map, hci]
      rfl
    have hb1' := e2 _ _ hb1
    have ilt : i < cs.length := (List.getElem?_eq_some_iff.mp hci).1
    refine ⟨_, hb1', sz_lt ?_, Same.mut (e.trans e2) hD, bs ++ [kp], ?_, ?_⟩
    · rw [List.length_map, pr_len hb2, List.length_take]
      omega
    · rw [upd_same, List.map_append]
      rfl
    · have mv : ∀ b kk, KeyAt H2 b kk → KeyAt (upd H2 D (.lst (bs.map V.ref ++ [V.ref kp]))) b kk := fun b kk hk => by
        unfold KeyAt at hk ⊢
        rw [upd_ne (ne_of hk hb1' fun z => nomatch z)]
        exact hk
      rw [take_snoc ki]
      exact pr_app (pr_imp hb2 fun _ _ z => mv _ _ (e2 _ _ z)) (.cons (mv _ _ hk2) .nil)
  · rintro H1 ⟨e1, bs, hb1, hb2⟩
    have lk : (keysL M.n g cs).length = cs.length := List.length_map ..
    rw [List.length_map, ela, ← lk, List.take_length] at hb2
    obtain ⟨y1, y2, y3⟩ := pr_zip hb2
    have ez : ((bs.zip (keysL M.n g cs)).map fun p => ((p.1, p.2.map Int.ofNat) : Addr × List Int)).map (fun p => V.ref p.1) = bs.map V.ref := by
      rw [List.map_map, ← y1, List.map_map, y1]
      rfl
    refine ⟨D, (bs.zip (keysL M.n g cs)).map fun p => (p.1, p.2.map Int.ofNat), rfl, ?_, ?_, ?_, fun a L ha hsub hsup => ?_⟩
    · rw [ez]
      exact SqL.of hb1
    · intro p hp
      obtain ⟨z, hz, rfl⟩ := List.mem_map.mp hp
      have := y3 z hz
      unfold KeyAt at this
      refine SqT.of (this.trans ?_)
      show some (HO.tup (z.2.map fun (n : Nat) => V.int (n : Int))) = some (HO.tup ((z.2.map Int.ofNat).map V.int))
      rw [List.map_map]
      rfl
    · rw [List.length_map]
      have := congrArg List.length y2
      rw [List.length_map, lk] at this
      omega
    · refine ⟨a, L, rfl, upd_same, fun nd => ?_⟩
      have e : L.length = touchL M.n g cs := by
        have := dups_len (ks := keysL M.n g cs) nd (fun x hx => ?_) (fun kk hk => ?_)
        · rw [List.length_map] at this
          exact this
        · obtain ⟨p, hp, rfl⟩ := List.mem_map.mp hx
          obtain ⟨z, hz, rfl⟩ := List.mem_map.mp (hsub p hp)
          exact ⟨z.2, by rw [← y2]; exact List.mem_map.mpr ⟨z, hz, rfl⟩, rfl⟩
        · rw [← y2] at hk
          obtain ⟨z, hz, rfl⟩ := List.mem_map.mp hk
          exact hsup _ (List.mem_map.mpr ⟨z, hz, rfl⟩)
      rw [e]
      exact k _ (e1.trans (Same.new ha))
end
end KR
end
section
set_option maxRecDepth 100000
set_option maxHeartbeats 4000000
/-! keeping: refresh, keep. -/
namespace KR
open PySem PySem.Spec PyProof.Rows L2
open Vamvsa (Group columnsOf canFrom)
theorem way_mul (b : Bool) (m : Int) : CMul (way b) m := by
  cases b <;> exact .inl ⟨by decide, by decide⟩
theorem MOk.repl {M : Mz} (h : MOk M) {x : KI} (hx : findK M.kept x.g = some x) {l : List Group} (h1 : KOk (columnsOf M.n x.g).length l) (h2 : l.length ≤ 60) : MOk { M with kept := replK M.kept ⟨x.g, l, M.chs.length⟩ } := by
  have gx := (h.kg x (findK_mem hx).1).1
  have gg : ∀ y, (if y.g = x.g then (⟨x.g, l, M.chs.length⟩ : KI) else y).g = y.g := fun y => by
    by_cases e : y.g = x.g
    · rw [if_pos e, e]
    · rw [if_neg e]
  refine ⟨h.n4, h.hlen, h.c40, h.rows, h.crow, fun y hy => ?_, ?_⟩
  · obtain ⟨z, hz, e⟩ := List.mem_map.mp hy
    have e2 : (if z.g = x.g then (⟨x.g, l, M.chs.length⟩ : KI) else z) = y := e
    by_cases c : z.g = x.g
    · rw [if_pos c] at e2
      rw [← e2]
      exact ⟨gx, h1, h2, Nat.le_refl _⟩
    · rw [if_neg c] at e2
      rw [← e2]
      exact h.kg z hz
  · refine List.pairwise_map.mpr (h.srt.imp fun {a b} hab => ?_)
    rw [gg a, gg b]
    exact hab
/-- what is kept from now on -/
def keepL (M : Mz) (gs : List Nat) : List KI := gs.map fun g => match findK M.kept g with
  | some x => x
  | none => ⟨g, ansL M.n g (nowM M), M.chs.length⟩
theorem keepL_g {M : Mz} (gs : List Nat) : (keepL M gs).map (·.g) = gs := by
  unfold keepL
  rw [List.map_map]
  have : ∀ g ∈ gs, ((fun x : KI => x.g) ∘ fun g => match findK M.kept g with
      | some x => x
      | none => ⟨g, ansL M.n g (nowM M), M.chs.length⟩) g = g := fun g _ => by
    show (match findK M.kept g with
      | some x => x
      | none => (⟨g, ansL M.n g (nowM M), M.chs.length⟩ : KI)).g = g
    cases z : findK M.kept g with
    | none => rfl
    | some x => exact (findK_mem z).2
  rw [List.map_congr_left this, List.map_id']
theorem MOk.keep {M : Mz} (h : MOk M) {gs : List Nat} (hs : gs.Pairwise (· < ·)) (hg : ∀ g ∈ gs, g < 2 ^ M.n) : MOk { M with kept := keepL M gs } := by
  refine ⟨h.n4, h.hlen, h.c40, h.rows, h.crow, fun y hy => ?_, ?_⟩
  · obtain ⟨g, hgm, e⟩ := List.mem_map.mp hy
    cases z : findK M.kept g with
    | some x =>
      rw [z] at e
      have e2 : x = y := e
      rw [← e2]
      exact h.kg x (findK_mem z).1
    | none =>
      rw [z] at e
      have e2 : (⟨g, ansL M.n g (nowM M), M.chs.length⟩ : KI) = y := e
      rw [← e2]
      have nw := now_ok h
      have w4 : (columnsOf M.n g).length ≤ 4 := Nat.le_trans (cols_len _ _) h.n4
      obtain ⟨a, b⟩ := ansL_ok (g := g) h.n4 (nowM M) [] (KOk.nil w4) nw.2
      refine ⟨hg g hgm, a, ?_, Nat.le_refl _⟩
      have b2 : (ansL M.n g (nowM M)).length ≤ 0 + (nowM M).length := b
      show (ansL M.n g (nowM M)).length ≤ 60
      omega
  · have : ((keepL M gs).map (·.g)).Pairwise (· < ·) := by rw [keepL_g]; exact hs
    exact List.pairwise_map.mp this
theorem MOk.k16 {M : Mz} (h : MOk M) : M.kept.length ≤ 16 := by
  have := nodup_len 16 (M.kept.map (·.g)) (fun g hg => by
    obtain ⟨x, hx, rfl⟩ := List.mem_map.mp hg
    exact pow_le h.n4 (h.kg x hx).1) (List.pairwise_map.mpr (h.srt.imp fun {a b} hab => Nat.ne_of_lt hab))
  rwa [List.length_map] at this
def sp_skeep (A : Ads) : Sp := fun vs H Q _ => ∃ (q : SA) (M : Mz) (gl : Addr) (ns : List Int), vs = [.ref q.S, .ref gl] ∧ St A q M H ∧ H gl = some (.lst (ns.map V.int)) ∧ ns.length ≤ 4000 ∧ (∀ i ∈ ns, 0 ≤ i ∧ i < ((2 ^ M.n : Nat) : Int)) ∧
  ∀ H' q' gs, q'.S = q.S → q'.HL = q.HL → q'.CL = q.CL → q'.X = q.X → gs.Pairwise (· < ·) → (∀ g : Nat, g ∈ gs ↔ (g : Int) ∈ ns) → St A q' { M with kept := keepL M gs } H' → (∀ b o, H b = some o → b ≠ q.S → H' b = some o) → H q'.KD = none → Q .non H'
theorem int_nats {ns : List Int} (h : ∀ i ∈ ns, 0 ≤ i) : ∃ gs : List Nat, ns = gs.map Int.ofNat := by
  refine ⟨ns.map Int.toNat, ?_⟩
  rw [List.map_map]
  have : ∀ i ∈ ns, (Int.ofNat ∘ Int.toNat) i = i := fun i hi => Int.toNat_of_nonneg (h i hi)
  rw [List.map_congr_left this, List.map_id']
section
variable {P : Program} {w : World} {K : PySem.W.Frag} {mg : Str → Option Value} {base : Heap} {A : Ads}
theorem ok_Store_refresh (T : Txt K mg A) : Ok P w K mg base CX0 3 A.f_Store_refresh P_Store_refresh (sp_srefresh A) := by
  obtain ⟨fd, F, b⟩ := T.F_Store_refresh
  obtain ⟨fd_Kept_init, b_Kept_init, G_Kept_init⟩ := ok_Kept_init (P := P) (w := w) (base := base) T
  obtain ⟨fd_Store_since, b_Store_since, G_Store_since⟩ := ok_Store_since (P := P) (w := w) (base := base) T
  obtain ⟨fd_group_of, b_group_of, G_group_of⟩ := ok_group_of (P := P) (w := w) (base := base) T
  obtain ⟨fd_with_more, b_with_more, G_with_more⟩ := ok_with_more (P := P) (w := w) (base := base) T
  refine ⟨fd, b, F.ok sc_Store_refresh (fun vs H Q E h => by
    obtain ⟨q, M, x, rfl, _⟩ := h
    rfl) (fun cdv Ar outer s H vs Q E hr h => ?_)⟩
  refine ⟨_, (pss_cons (ps_set (i := 2) sc_Store_refresh.nd rfl (by first | exact Or.inl rfl | exact Or.inr rfl) (pe_fld (pe_dget (hu_of hr) (pe_fld (pv 0) rfl) (pv 1) (fun _ _ => rfl)) rfl))
    (pss_cons (ps_for PassesOwn.never rfl (pi_list (pe_meth (pv 0) T.cl_Store T.m_Store_since G_Store_since (hr.mono (by decide)) b_Store_since .nil pass0 (pa_cons (pv 1) pa_nil))) (pg_tup rfl (pgs_cons (pg_name (i := 3) sc_Store_refresh.nd rfl (by first | exact Or.inl rfl | exact Or.inr rfl)) (pgs_cons (pg_name (i := 4) sc_Store_refresh.nd rfl (by first | exact Or.inl rfl | exact Or.inr rfl)) pgs_nil))) (pss_one (ps_set (i := 2) sc_Store_refresh.nd rfl (by first | exact Or.inl rfl | exact Or.inr rfl) (pe_call G_with_more (hr.mono (by decide)) rfl T.g_with_more T.k_with_more b_with_more .nil pass0 (pa_cons (pv 2) (pa_cons (pe_call G_group_of (hr.mono (by decide)) rfl T.g_group_of T.k_group_of b_group_of .nil pass0 (pa_cons (pe_ix ix_tup (pv 4) pe_int (fun _ _ => rfl)) (pa_cons (pv 1) pa_nil))) (pa_cons (pe_op op_mul (pv 3) (pe_ix ix_tup (pv 4) pe_int (fun _ _ => rfl))) (pa_cons (pv 3) pa_nil))))))))
    (pss_one (ps_dput (hu_of hr) (pe_fld (pv 0) rfl) (pv 1) (pe_make T.mk_Kept G_Kept_init (hr.mono (by decide)) rfl T.g_Kept b_Kept_init .nil pass0 (pa_cons (pv 2) (pa_cons (pe_callB call_len_seq (by rfl) T.n_len (by decide +kernel) (pa_cons (pe_fld (pv 0) rfl) pa_nil)) pa_nil))) rfl)))), ?_⟩
  obtain ⟨q, M, x, rfl, d, hx, hneg, hlen, k⟩ := h
  have n4 := d.ok.n4
  obtain ⟨xg, xk, xl, xm⟩ := d.ok.kg x (findK_mem hx).1
  obtain ⟨a, dd, L, g1, g2, g3⟩ := d.get hx
  have crow : ∀ c ∈ M.chs.drop x.made, RowOk M.n c.2 := fun c hc => d.ok.crow c (List.mem_of_mem_drop hc)
  have c40 : (M.chs.drop x.made).length ≤ 40 := by
    have := d.ok.c40
    rw [List.length_drop]
    omega
  refine ⟨_, rfl, q.S, _, _, _, _, rfl, d.self, T.cl_Store, T.na_Store_kept, rfl, _, rfl, q.KD, _, rfl, g1, a, _, _, _, _, rfl, g2, T.cl_Kept, T.na_Kept_lines_kept, rfl, ?_⟩
  refine ⟨_, rfl, q.S, _, _, rfl, d.self, rfl, _, rfl, q, M, x, rfl, d, hx, fun H1 pl e1 hpl hch => ?_⟩
  obtain ⟨as, hc1, hc2⟩ := hch
  have ela := pr_len hc2
  refine ⟨pl, rfl, ⟨_, SqL.of hc1⟩, for_list (K := K) (a := pl) (xs := as.map V.ref)
    (fun i σ H' => ∃ (L' : Addr) (v3 v4 : Option V), σ = [some (.ref q.S), some (.int (x.g : Int)), some (.ref L'), v3, v4] ∧ Same H1 H' ∧ AnsAt H' L' (refL M.n x.g x.l ((M.chs.drop x.made).take i)))
    ⟨L, none, none, rfl, Same.refl H1, g3.mono e1⟩ (fun i σ H' _ ⟨_, _, _, _, h, _⟩ => SqL.of (h _ _ hc1)) ?_ ?_⟩
  · rintro i y σ H' hi ⟨L', v3, v4, rfl, e2, hL'⟩
    obtain ⟨t, hti, rfl⟩ : ∃ t, as[i]? = some t ∧ y = V.ref t := by
      rw [List.getElem?_map] at hi
      cases z : as[i]? with
      | none => rw [z] at hi; cases hi
      | some t => rw [z] at hi; exact ⟨t, rfl, (Option.some.inj hi).symm⟩
    obtain ⟨c, hci, p, hp1, u, hu1, hu2⟩ := pr_at' hc2 hti
    have ro := crow c (List.mem_of_getElem? hci)
    obtain ⟨rk, rl⟩ := refL_ok ((M.chs.drop x.made).take i) x.l xk (fun c hc => crow c (List.mem_of_mem_take hc))
    rw [List.length_take] at rl
    refine ⟨t, _, rfl, SqT.of (e2 _ _ hp1), rfl, _, _, rfl, _, _, rfl, rfl, ?_⟩
    refine ⟨_, rfl, ?_⟩
    refine ⟨_, rfl, p, _, _, _, rfl, rfl, SqT.of (e2 _ _ hu1), at_of (j := 0) rfl rfl, _, rfl, ?_⟩
    refine ⟨u, c.2.vs, x.g, M.n, rfl, e2 _ _ hu2, ro.1, n4, xg, fun H2 kp e3 hkp hk2 => ?_⟩
    have e23 := e2.trans e3
    refine ⟨_, rfl, _, rfl, p, _, _, _, rfl, rfl, SqT.of (e23 _ _ hu1), at_of (j := 1) rfl rfl, _, _, rfl, rfl, way_mul c.1 c.2.m, _, rfl, ?_⟩
    refine ⟨L', kp, _, _, _, _, _, rfl, hL'.mono e3, hk2, rk, by omega, hneg i c hci, fun H3 L3 e4 hL3 ha3 => ?_⟩
    refine ⟨L3, some (.int (way c.1)), some (.ref p), rfl, e23.trans e4, ?_⟩
    rw [take_snoc hci, refL_snoc]
    exact ha3
  · rintro σ H2 ⟨L', v3, v4, rfl, e2, hL'⟩
    rw [List.length_map, ela, List.take_length] at hL'
    have d2 := d.mono (e1.trans e2)
    obtain ⟨cs, hcs1, hcs2⟩ := d2.chs
    obtain ⟨hs, hS1, hS2, hS3⟩ := d2.hist
    refine ⟨_, rfl, ?_⟩
    refine ⟨_, rfl, q.S, _, _, _, _, rfl, d2.self, T.cl_Store, T.na_Store_changes, rfl, q.CL, _, rfl, .inl (SqL.of hcs1), ?_⟩
    refine fun xk1 dxk hxk hdxk nxk => ?_
    have e3 : Same H2 (upd (upd H2 dxk (.own xk1)) xk1 (.ins A.c_Kept dxk [])) := (Same.new hdxk).trans (Same.new (by rw [upd_ne (Ne.symm nxk)]; exact hxk))
    refine ⟨xk1, dxk, L', _, rfl, upd_same, fun H3 f3 h3 _ => ⟨rfl, ?_⟩⟩
    have e4 : Same H2 H3 := fun b o hb => f3 b o (e3 b o hb) (ne_of_none hb hxk)
    have d3 := d2.mono e4
    obtain ⟨kvs, hk1, hk2⟩ := d3.kept
    refine ⟨_, rfl, q.S, _, _, _, _, rfl, d3.self, T.cl_Store, T.na_Store_kept, rfl, _, rfl, ?_⟩
    have lk : kvs.length ≤ 16 := by rw [pr_len hk2]; exact d.ok.k16
    have hput : DPut H3 q.KD (.int (x.g : Int)) (.ref xk1) (upd H3 q.KD (.dK (putK kvs (.inl (x.g : Int)) (.ref xk1)))) := DPut.k (k := .inl (x.g : Int)) hk1 (sz_lt (by omega))
    refine ⟨q.KD, _, rfl, hput, ?_⟩
    have eput : putK kvs (.inl (x.g : Int)) (.ref xk1) = kvs.map fun kv => if kv.1 = .inl (x.g : Int) then (kv.1, .ref xk1) else kv := by
      unfold putK
      rw [kept_any hk2 x.g, hx]
      rfl
    obtain ⟨rk, rl⟩ := refL_ok (M.chs.drop x.made) x.l xk crow
    have ec := pr_len hcs2
    rw [List.length_map, ec] at h3
    have hk3 := kept_put (x := ⟨x.g, refL M.n x.g x.l (M.chs.drop x.made), M.chs.length⟩) (v := .ref xk1) rfl h3 (hL'.mono e4) hk2
    rw [eput]
    have mv : ∀ b o, H3 b = some o → (∀ kk, o ≠ .dK kk) → upd H3 q.KD (.dK (kvs.map fun kv => if kv.1 = .inl (x.g : Int) then (kv.1, .ref xk1) else kv)) b = some o := fun b o hb hn => by
      rw [upd_ne fun z => by rw [z, hk1] at hb; exact hn _ (Option.some.inj hb).symm]
      exact hb
    have mrow : ∀ a x', RowAt H3 a x' → RowAt (upd H3 q.KD (.dK (kvs.map fun kv => if kv.1 = .inl (x.g : Int) then (kv.1, .ref xk1) else kv))) a x' := fun a x' ⟨u, u1, u2⟩ => ⟨u, mv _ _ u1 fun _ z => (nomatch z), mv _ _ u2 fun _ z => (nomatch z)⟩
    have mk : ∀ a x', KeptAt A H3 a x' → KeptAt A (upd H3 q.KD (.dK (kvs.map fun kv => if kv.1 = .inl (x.g : Int) then (kv.1, .ref xk1) else kv))) a x' := fun a x' ⟨k1, u, dd, L, k2, k3, kv, k4, k5⟩ => ⟨k1, u, dd, L, k2, mv _ _ k3 fun _ z => (nomatch z), kv, mv _ _ k4 fun _ z => (nomatch z), pr_imp k5 fun _ _ ⟨g1, g2, g3, g4⟩ => ⟨g1, g2, g3, mv _ _ g4 fun _ z => (nomatch z)⟩⟩
    refine k _ ⟨mv _ _ d3.self fun _ z => (nomatch z), ⟨hs, mv _ _ (e4 _ _ hS1) fun _ z => (nomatch z), ?_, hS3⟩, ⟨cs, mv _ _ (e4 _ _ hcs1) fun _ z => (nomatch z), ?_⟩, ⟨_, upd_same, pr_imp hk3 mk⟩, d.ne, d.ok.repl hx rk hlen, d3.ext.imp fun _ hx => mv _ _ hx fun _ z => (nomatch z), d.xne⟩ fun b o hb n1 n2 n3 n4 => ?_
    · exact pr_imp hS2 fun _ _ h => by
        obtain ⟨as, r1, r2⟩ := h.mono e4
        exact ⟨as, mv _ _ r1 fun _ z => (nomatch z), pr_imp r2 mrow⟩
    · exact pr_imp hcs2 fun _ _ h => by
        obtain ⟨p, r1, r2⟩ := h.mono e4
        exact ⟨p, mv _ _ r1 fun _ z => (nomatch z), mrow _ _ r2⟩
    · rw [upd_ne n4]
      exact e4 _ _ (e2 _ _ (e1 _ _ hb))
theorem ok_Store_keep (T : Txt K mg A) : Ok P w K mg base CX0 4 A.f_Store_keep P_Store_keep (sp_skeep A) := by
  obtain ⟨fd, F, b⟩ := T.F_Store_keep
  obtain ⟨fd_Kept_init, b_Kept_init, G_Kept_init⟩ := ok_Kept_init (P := P) (w := w) (base := base) T
  obtain ⟨fd_Store_rows_now, b_Store_rows_now, G_Store_rows_now⟩ := ok_Store_rows_now (P := P) (w := w) (base := base) T
  obtain ⟨fd_answer_of, b_answer_of, G_answer_of⟩ := ok_answer_of (P := P) (w := w) (base := base) T
  refine ⟨fd, b, F.ok sc_Store_keep (fun vs H Q E h => by
    obtain ⟨q, M, gl, ns, rfl, _⟩ := h
    rfl) (fun cdv Ar outer s H vs Q E hr h => ?_)⟩
  refine ⟨_, (pss_cons (ps_set (i := 2) sc_Store_keep.nd rfl (by first | exact Or.inl rfl | exact Or.inr rfl) pe_dnewK)
    (pss_cons (ps_for PassesOwn.never rfl (pi_list (pe_callB (cr_sortedSet rfl) (by rfl) T.n_sorted (by decide +kernel) (pa_cons (pe_callTy (call_setI rfl) (by rfl) T.n_set (by decide +kernel) (pa_cons (pv 1) pa_nil)) pa_nil))) (pg_name (i := 3) sc_Store_keep.nd rfl (by first | exact Or.inl rfl | exact Or.inr rfl)) (pss_one (ps_if (pt_cmp (pc_din (hu_of hr) (pv 3) (pe_fld (pv 0) rfl))) (pss_one (ps_dput (hu_of hr) (pv 2) (pv 3) (pe_dget (hu_of hr) (pe_fld (pv 0) rfl) (pv 3) (fun _ _ => rfl)) rfl)) (pss_one (ps_dput (hu_of hr) (pv 2) (pv 3) (pe_make T.mk_Kept G_Kept_init (hr.mono (by decide)) rfl T.g_Kept b_Kept_init .nil pass0 (pa_cons (pe_call G_answer_of (hr.mono (by decide)) rfl T.g_answer_of T.k_answer_of b_answer_of .nil pass0 (pa_cons (pe_meth0 (pv 0) T.cl_Store T.m_Store_rows_now G_Store_rows_now (hr.mono (by decide)) b_Store_rows_now .nil pass0) (pa_cons (pv 3) pa_nil))) (pa_cons (pe_callB call_len_seq (by rfl) T.n_len (by decide +kernel) (pa_cons (pe_fld (pv 0) rfl) pa_nil)) pa_nil))) rfl)))))
    (pss_one (ps_fld (pv 0) (pv 2) rfl)))), ?_⟩
  obtain ⟨q, M, gl, ns, rfl, d, hgl, l4000, hns, k⟩ := h
  have n4 := d.ok.n4
  have nw := now_ok d.ok
  -- found = {}
  refine fun pf hpf => ?_
  have e1 := Same.new (o := .dK []) hpf
  have hpf1 : upd H pf (.dK []) pf = some (.dK []) := upd_same
  generalize upd H pf (.dK []) = H1 at e1 hpf1 ⊢
  -- sorted(set(groupings))
  refine ⟨_, rfl, gl, ns, rfl, SqL.of (e1 _ _ hgl), l4000, fun ps c L nd hlc hm hps => ?_⟩
  have c16 : c ≤ 16 := by
    obtain ⟨gs, hgs⟩ := int_nats (ns := L) fun i hi => (hns i (hm i hi)).1
    have nd2 : gs.Nodup := by
      rw [hgs] at nd
      exact (List.pairwise_map.mp nd).imp fun {a b} h z => h (by rw [z])
    have := nodup_len 16 gs (fun g hg => by
      have h1 := (hns _ (hm (Int.ofNat g) (by rw [hgs]; exact List.mem_map.mpr ⟨g, hg, rfl⟩))).2
      have h2 : g < 2 ^ M.n := Int.ofNat_lt.mp h1
      exact pow_le n4 h2) nd2
    rw [← hlc, hgs, List.length_map]
    exact this
  refine ⟨ps, _, c, rfl, upd_same, by omega, fun ys p hpair hmem hylen hp => ?_⟩
  have hy : ∀ i ∈ ys, i ∈ ns := fun i hi => of_decide_eq_true ((hmem i).mp hi)
  obtain ⟨gs, hgs⟩ := int_nats (ns := ys) fun i hi => (hns i (hy i hi)).1
  have e2 := (Same.new (H := H1) (o := SetO w ps (fun j => decide (j ∈ ns)) c) hps).trans (Same.new (o := .lst (ys.map V.int)) hp)
  have hpv : (upd (upd H1 ps (SetO w ps (fun j => decide (j ∈ ns)) c)) p (.lst (ys.map V.int))) p = some (.lst (ys.map V.int)) := upd_same
  have gpair : gs.Pairwise (· < ·) := by
    rw [hgs] at hpair
    exact (List.pairwise_map.mp hpair).imp fun {a b} h => Int.ofNat_lt.mp h
  have gmem : ∀ g : Nat, g ∈ gs ↔ (g : Int) ∈ ns := fun g => by
    have h1 := hmem (g : Int)
    rw [decide_eq_true_iff] at h1
    rw [← h1, hgs, List.mem_map]
    constructor
    · intro h
      exact ⟨g, h, rfl⟩
    · rintro ⟨g2, h2, h3⟩
      rw [← Int.ofNat.inj h3]
      exact h2
  have glt : ∀ g ∈ gs, g < 2 ^ M.n := fun g hg => Int.ofNat_lt.mp (hns _ ((gmem g).mp hg)).2
  have g16 : gs.length ≤ 16 := by
    have h1 : ys.length = gs.length := by rw [hgs, List.length_map]
    omega
  have exs : ys.map V.int = gs.map fun (g : Nat) => V.int (g : Int) := by
    rw [hgs, List.map_map]
    rfl
  rw [exs] at hpv ⊢
  have npf : pf ≠ p := fun z => by
    have := e2 _ _ hpf1
    rw [z, exs, hpv] at this
    cases this
  have e02 := e1.trans (e2.trans (Same.refl _))
  rw [exs] at e2 e02
  refine ⟨p, rfl, ⟨_, SqL.of hpv⟩, for_list (K := K) (a := p) (xs := gs.map fun (g : Nat) => V.int (g : Int))
    (fun i σ H' => ∃ (v3 : Option V) (kvs : List (L2.Key × V)), σ = [some (.ref q.S), some (.ref gl), some (.ref pf), v3] ∧ Same H H' ∧ H' p = some (.lst (gs.map fun (g : Nat) => V.int (g : Int))) ∧ H' pf = some (.dK kvs) ∧ Paired (KeptAt A H') kvs (keepL M (gs.take i)))
    ⟨none, [], rfl, e02, hpv, e2 _ _ hpf1, .nil⟩ (fun i σ H' _ ⟨_, _, _, _, h, _⟩ => SqL.of h) ?_ ?_⟩
  · rintro i y σ H3 hi ⟨v3, kvs, rfl, e3, hp3, hk3, pk⟩
    obtain ⟨g, hg, rfl⟩ : ∃ g : Nat, gs[i]? = some g ∧ y = V.int (g : Int) := by
      rw [List.getElem?_map] at hi
      cases z : gs[i]? with
      | none => rw [z] at hi; cases hi
      | some g => rw [z] at hi; exact ⟨g, rfl, (Option.some.inj hi).symm⟩
    have gl2 := glt g (List.mem_of_getElem? hg)
    have d3 := d.mono e3
    have ilt : i < gs.length := (List.getElem?_eq_some_iff.mp hg).1
    have klen := pr_len pk
    have kl2 : (keepL M (gs.take i)).length = (gs.take i).length := List.length_map ..
    rw [kl2, List.length_take] at klen
    have fresh : findK (keepL M (gs.take i)) g = none := by
      cases z : findK (keepL M (gs.take i)) g with
      | none => rfl
      | some x =>
        obtain ⟨h1, h2⟩ := findK_mem z
        have h3 : x.g ∈ (keepL M (gs.take i)).map (·.g) := List.mem_map.mpr ⟨x, h1, rfl⟩
        rw [keepL_g, h2] at h3
        obtain ⟨j, hj, ej⟩ := List.getElem_of_mem h3
        rw [List.length_take] at hj
        rw [List.getElem_take] at ej
        have := List.pairwise_iff_getElem.mp gpair j i (by omega) ilt (by omega)
        rw [ej, (List.getElem?_eq_some_iff.mp hg).2] at this
        omega
    have eput : ∀ v, putK kvs (.inl (g : Int)) v = kvs ++ [(.inl (g : Int), v)] := fun v => by
      unfold putK
      rw [kept_any pk g, fresh]
      rfl
    have esnoc : keepL M (gs.take (i + 1)) = keepL M (gs.take i) ++ [match findK M.kept g with
        | some x => x
        | none => ⟨g, ansL M.n g (nowM M), M.chs.length⟩] := by
      unfold keepL
      rw [take_snoc hg, List.map_append]
      rfl
    have mkAll : ∀ (H' : Hp) (u : List (L2.Key × V)), H' pf = some (.dK kvs) → ∀ a x', KeptAt A H' a x' → KeptAt A (upd H' pf (.dK u)) a x' := fun H' u hp0 a x' ⟨k1, b, dd, L, k2, k3, kv, k4, k5⟩ => by
      have mv : ∀ b o, H' b = some o → (∀ kk, o ≠ .dK kk) → upd H' pf (.dK u) b = some o := fun b o hb hn => by
        rw [upd_ne fun z => by rw [z, hp0] at hb; exact hn _ (Option.some.inj hb).symm]
        exact hb
      exact ⟨k1, b, dd, L, k2, mv _ _ k3 fun _ z => (nomatch z), kv, mv _ _ k4 fun _ z => (nomatch z), pr_imp k5 fun _ _ ⟨g1, g2, g3, g4⟩ => ⟨g1, g2, g3, mv _ _ g4 fun _ z => (nomatch z)⟩⟩
    obtain ⟨kk, hkk1, hkk2⟩ := d3.kept
    refine ⟨_, rfl, _, rfl, q.S, _, _, _, _, rfl, d3.self, T.cl_Store, T.na_Store_kept, rfl, q.KD, _, rfl, DGet.k (k := .inl (g : Int)) hkk1, _, rfl, ?_⟩
    cases hf : findK M.kept g with
    | some x =>
      have xg := (findK_mem hf).2
      rw [hf] at esnoc
      have esn2 : keepL M (gs.take (i + 1)) = keepL M (gs.take i) ++ [x] := esnoc
      rcases kept_find hkk2 g with ⟨z, -⟩ | ⟨x2, pp, z1, z2, z3, z4⟩
      · rw [hf] at z; cases z
      rw [hf] at z1
      cases z1
      rw [z3]
      refine iteT' rfl ?_
      refine ⟨_, rfl, q.S, _, _, _, _, rfl, d3.self, T.cl_Store, T.na_Store_kept, rfl, _, rfl, q.KD, _, rfl, (by have := DGet.k (k := .inl (g : Int)) hkk1; rw [z3] at this; exact this), ?_⟩
      refine ⟨_, rfl, _, rfl, pf, _, rfl, DPut.k (k := .inl (g : Int)) hk3 (sz_lt (by omega)), ?_⟩
      rw [eput]
      refine ⟨some (.int (g : Int)), _, rfl, Same.mut e3 hpf, (upd_ne (Ne.symm npf)).trans hp3, upd_same, ?_⟩
      rw [esn2]
      refine pr_app (pr_imp pk (mkAll _ _ hk3)) (.cons (mkAll _ _ hk3 _ _ ?_) .nil)
      obtain ⟨w1, w2⟩ := z4
      exact ⟨congrArg (fun n : Nat => (Sum.inl (n : Int) : L2.Key)) xg.symm, w2⟩
    | none =>
      rw [hf] at esnoc
      have esn2 : keepL M (gs.take (i + 1)) = keepL M (gs.take i) ++ [⟨g, ansL M.n g (nowM M), M.chs.length⟩] := esnoc
      rcases kept_find hkk2 g with ⟨-, z⟩ | ⟨x2, pp, z1, -⟩
      case inr => rw [hf] at z1; cases z1
      rw [z]
      refine iteF' rfl ?_
      refine ⟨_, rfl, q.S, _, _, rfl, d3.self, rfl, q, M, rfl, d3, fun h hh n1 n2 => ?_⟩
      refine ⟨_, rfl, h, nowM M, g, M.n, rfl, hh, nw.2, by omega, n4, gl2, fun H4 al e4 hal ha4 => ?_⟩
      have d4 := d3.mono e4
      obtain ⟨cs, hcs1, hcs2⟩ := d4.chs
      refine ⟨_, rfl, q.S, _, _, _, _, rfl, d4.self, T.cl_Store, T.na_Store_changes, rfl, q.CL, _, rfl, .inl (SqL.of hcs1), ?_⟩
      refine fun xk dxk hxk hdxk nxk => ?_
      have e5 : Same H4 (upd (upd H4 dxk (.own xk)) xk (.ins A.c_Kept dxk [])) := (Same.new hdxk).trans (Same.new (by rw [upd_ne (Ne.symm nxk)]; exact hxk))
      refine ⟨xk, dxk, al, _, rfl, upd_same, fun H5 f5 h5 _ => ⟨rfl, ?_⟩⟩
      have e6 : Same H4 H5 := fun b o hb => f5 b o (e5 b o hb) (ne_of_none hb hxk)
      have e46 := e4.trans e6
      have hk5 := e46 _ _ hk3
      refine ⟨_, rfl, _, rfl, pf, _, rfl, DPut.k (k := .inl (g : Int)) hk5 (sz_lt (by omega)), ?_⟩
      rw [eput]
      refine ⟨some (.int (g : Int)), _, rfl, Same.mut (e3.trans e46) hpf, (upd_ne (Ne.symm npf)).trans (e46 _ _ hp3), upd_same, ?_⟩
      rw [esn2]
      rw [List.length_map, pr_len hcs2] at h5
      refine pr_app (pr_imp pk fun _ _ z => mkAll _ _ hk5 _ _ (z.mono e46)) (.cons (mkAll _ _ hk5 _ _ ?_) .nil)
      exact ⟨rfl, xk, dxk, al, rfl, h5, ha4.mono e6⟩
  · rintro σ H3 ⟨v3, kvs, rfl, e3, hp3, hk3, pk⟩
    rw [List.length_map, List.take_length] at pk
    have d3 := d.mono e3
    obtain ⟨cs, hcs1, hcs2⟩ := d3.chs
    obtain ⟨hs, hS1, hS2, hS3⟩ := d3.hist
    refine ⟨_, rfl, _, rfl, q.S, _, _, _, rfl, d3.self, T.cl_Store, T.na_Store_kept, (by show 4 < 1000; decide), ?_⟩
    have mv : ∀ b o, H3 b = some o → b ≠ q.S → upd H3 q.S (.ins A.c_Store q.dS (putF "kept" (.ref pf) [("many", .int (M.n : Int)), ("history", .ref q.HL), ("changes", .ref q.CL), ("kept", .ref q.KD)])) b = some o := fun b o hb nb => by
      rw [upd_ne nb]
      exact hb
    have nS : ∀ b o, H3 b = some o → (∀ C dx fs, o ≠ .ins C dx fs) → b ≠ q.S := fun b o hb hn z => by
      rw [z, d3.self] at hb
      exact hn _ _ _ (Option.some.inj hb).symm
    have mvk : ∀ b o, H3 b = some o → (∀ C dx fs, o ≠ .ins C dx fs) → _ := fun b o hb hn => mv b o hb (nS b o hb hn)
    have mrow : ∀ a x', RowAt H3 a x' → RowAt (upd H3 q.S (.ins A.c_Store q.dS (putF "kept" (.ref pf) [("many", .int (M.n : Int)), ("history", .ref q.HL), ("changes", .ref q.CL), ("kept", .ref q.KD)]))) a x' := fun a x' ⟨u, u1, u2⟩ => ⟨u, mvk _ _ u1 fun _ _ _ z => (nomatch z), mvk _ _ u2 fun _ _ _ z => (nomatch z)⟩
    have mk : ∀ a x', KeptAt A H3 a x' → KeptAt A (upd H3 q.S (.ins A.c_Store q.dS (putF "kept" (.ref pf) [("many", .int (M.n : Int)), ("history", .ref q.HL), ("changes", .ref q.CL), ("kept", .ref q.KD)]))) a x' := fun a x' ⟨k1, u, dd, L, k2, k3, kv, k4, k5⟩ =>
      ⟨k1, u, dd, L, k2, mv _ _ k3 (fun z => by
        rw [z, d3.self] at k3
        have t3 := Option.some.inj k3
        injection t3 with e1 e2 e3
        injection e3 with e4 e5
        injection e4 with e6 e7
        exact absurd e6 (by decide)), kv, mvk _ _ k4 fun _ _ _ z => (nomatch z), pr_imp k5 fun _ _ ⟨g1, g2, g3, g4⟩ => ⟨g1, g2, g3, mvk _ _ g4 fun _ _ _ z => (nomatch z)⟩⟩
    refine k _ ⟨q.S, q.dS, q.HL, q.CL, pf, q.X⟩ gs rfl rfl rfl rfl gpair gmem ⟨upd_same, ⟨hs, mvk _ _ hS1 fun _ _ _ z => (nomatch z), ?_, hS3⟩, ⟨cs, mvk _ _ hcs1 fun _ _ _ z => (nomatch z), ?_⟩, ⟨kvs, mvk _ _ hk3 fun _ _ _ z => (nomatch z), pr_imp pk mk⟩, d.ne, d.ok.keep gpair glt, d3.ext.imp fun _ hx => mvk _ _ hx fun _ _ _ z => (nomatch z), d.xne⟩ (fun b o hb nb => mv _ _ (e3 _ _ hb) nb) hpf
    · exact pr_imp hS2 fun _ _ h => by
        obtain ⟨as, r1, r2⟩ := h
        exact ⟨as, mvk _ _ r1 fun _ _ _ z => (nomatch z), pr_imp r2 mrow⟩
    · exact pr_imp hcs2 fun _ _ h => by
        obtain ⟨p, r1, r2⟩ := h
        exact ⟨p, mvk _ _ r1 fun _ _ _ z => (nomatch z), mrow _ _ r2⟩
end
end KR
end
section
set_option maxRecDepth 100000
set_option maxHeartbeats 4000000
/-! keeping: read_from, cheapest. -/
namespace KR
open PySem PySem.Spec PyProof.Rows L2
open Vamvsa (Group columnsOf canFrom)
theorem perm_sorted : ∀ {l m : List Int}, l.Perm m → l.Pairwise (· ≤ ·) → m.Pairwise (· < ·) → l = m
  | [], m, p, _, _ => (List.Perm.nil_eq p)
  | a :: l, [], p, _, _ => absurd p.length_eq (by simp)
  | a :: l, b :: m, p, hl, hm => by
    obtain ⟨h1, h2⟩ := List.pairwise_cons.mp hl
    obtain ⟨h3, h4⟩ := List.pairwise_cons.mp hm
    have e : a = b := by
      have ab : b ∈ a :: l := p.mem_iff.mpr (List.mem_cons_self)
      have ba : a ∈ b :: m := p.mem_iff.mp (List.mem_cons_self)
      rcases List.mem_cons.mp ab with z | z
      · exact z.symm
      · rcases List.mem_cons.mp ba with y | y
        · exact y
        · have := h1 b z
          have := h3 a y
          omega
    subst e
    rw [perm_sorted ((List.perm_cons a).mp p) h2 h4]
theorem kept_ints {M : Mz} (h : MOk M) {ys : List Int} (p : ys.Perm (M.kept.map fun x => (x.g : Int))) (s : ys.Pairwise (· ≤ ·)) : ys = M.kept.map fun x => (x.g : Int) :=
  perm_sorted p s (List.pairwise_map.mpr (h.srt.imp fun {a b} hab => Int.ofNat_lt.mpr hab))
theorem findK_of {M : Mz} (h : MOk M) {x : KI} (hx : x ∈ M.kept) : findK M.kept x.g = some x := by
  cases z : findK M.kept x.g with
  | none =>
    have := List.find?_eq_none.mp z x hx
    exact absurd (decide_eq_true rfl) this
  | some y =>
    obtain ⟨h1, h2⟩ := findK_mem z
    obtain ⟨i, hi, ei⟩ := List.getElem_of_mem hx
    obtain ⟨j, hj, ej⟩ := List.getElem_of_mem h1
    have pw := List.pairwise_iff_getElem.mp h.srt
    rcases Nat.lt_trichotomy i j with c | c | c
    · have := pw i j hi hj c
      rw [ei, ej] at this
      omega
    · subst c
      rw [← ei, ← ej]
    · have := pw j i hj hi c
      rw [ei, ej] at this
      omega
def someL (M : Mz) (g a : Nat) : List KI := M.kept.filter fun x => canFrom M.n x.g g && decide (ageM M x ≤ a)
def firstMin (l : List KI) : Option KI := l.foldl (fun b x => match b with
  | none => some x
  | some y => if x.l.length < y.l.length then some x else some y) none
theorem first_fold : ∀ (l : List KI) (y : KI), ∃ x, l.foldl (fun b x => match b with
    | none => some x
    | some y => if x.l.length < y.l.length then some x else some y) (some y) = some x ∧ (∀ m : Nat, (∀ z ∈ y :: l, m ≤ z.l.length) → (∃ z ∈ y :: l, z.l.length = m) → ((y :: l).filter fun z => decide (z.l.length = m)).head? = some x)
  | [], y => ⟨y, rfl, fun m h1 ⟨z, hz, h2⟩ => by
    rw [List.mem_singleton.mp hz] at h2
    rw [List.filter_cons, decide_eq_true h2]
    rfl⟩
  | a :: l, y => by
    show ∃ x, l.foldl _ (if a.l.length < y.l.length then some a else some y) = some x ∧ _
    by_cases c : a.l.length < y.l.length
    · rw [if_pos c]
      obtain ⟨x, h1, h2⟩ := first_fold l a
      refine ⟨x, h1, fun m k1 k2 => ?_⟩
      have ny : ¬ y.l.length = m := fun z => by
        have := k1 a (List.mem_cons_of_mem _ (List.mem_cons_self))
        omega
      rw [List.filter_cons, decide_eq_false ny, if_neg Bool.false_ne_true]
      refine h2 m (fun z hz => k1 z (List.mem_cons_of_mem _ hz)) ?_
      obtain ⟨z, hz, e⟩ := k2
      rcases List.mem_cons.mp hz with q | q
      · rw [q] at e
        exact absurd e ny
      · exact ⟨z, q, e⟩
    · rw [if_neg c]
      obtain ⟨x, h1, h2⟩ := first_fold l y
      refine ⟨x, h1, fun m k1 k2 => ?_⟩
      have k3 : ∀ z ∈ y :: l, m ≤ z.l.length := fun z hz => by
        rcases List.mem_cons.mp hz with q | q
        · rw [q]; exact k1 y (List.mem_cons_self)
        · exact k1 z (List.mem_cons_of_mem _ (List.mem_cons_of_mem _ q))
      have k4 : ∃ z ∈ y :: l, z.l.length = m := by
        obtain ⟨z, hz, e⟩ := k2
        rcases List.mem_cons.mp hz with q | q
        · exact ⟨z, by rw [q]; exact List.mem_cons_self, e⟩
        · rcases List.mem_cons.mp q with q | q
          · refine ⟨y, List.mem_cons_self, ?_⟩
            rw [q] at e
            have := k1 y (List.mem_cons_self)
            omega
          · exact ⟨z, List.mem_cons_of_mem _ q, e⟩
      have h3 := h2 m k3 k4
      by_cases ey : y.l.length = m
      · rw [List.filter_cons, decide_eq_true ey] at h3 ⊢
        exact h3
      · have na : ¬ a.l.length = m := fun z => by
          have := k1 y (List.mem_cons_self)
          omega
        rw [List.filter_cons, decide_eq_false ey, if_neg Bool.false_ne_true] at h3 ⊢
        rw [List.filter_cons, decide_eq_false na, if_neg Bool.false_ne_true]
        exact h3
theorem firstMin_eq {l : List KI} {m : Nat} (h1 : ∀ z ∈ l, m ≤ z.l.length) (h2 : ∃ z ∈ l, z.l.length = m) : (l.filter fun z => decide (z.l.length = m)).head? = firstMin l := by
  cases l with
  | nil => rfl
  | cons y l =>
    obtain ⟨x, e1, e2⟩ := first_fold l y
    rw [e2 m h1 h2]
    exact e1.symm
def cheapM (M : Mz) (x : KI) : Option KI × Nat :=
  (M.kept.filter fun y => y.g != x.g && (canFrom M.n y.g x.g && decide (ageM M y = ageM M x))).foldl (fun (b : Option KI × Nat) y => if touchL M.n y.g (M.chs.drop x.made) < b.2 then (some y, touchL M.n y.g (M.chs.drop x.made)) else b) (none, (M.chs.drop x.made).length)
def sp_read_from (A : Ads) : Sp := fun vs H Q _ => ∃ (q : SA) (M : Mz) (g a : Nat), vs = [.ref q.S, .int (g : Int), .int (a : Int)] ∧ St A q M H ∧ g < 2 ^ M.n ∧ ∀ H', Same H H' → Q (.int (srcI (firstMin (someL M g a)))) H'
def sp_cheapest (A : Ads) : Sp := fun vs H Q _ => ∃ (q : SA) (M : Mz) (x : KI), vs = [.ref q.S, .int (x.g : Int)] ∧ St A q M H ∧ findK M.kept x.g = some x ∧
  ∀ H' p, Same H H' → H' p = some (.tup [.int (srcI (cheapM M x).1), .int ((cheapM M x).2 : Nat)]) → Q (.ref p) H'
theorem filter_take {α : Type} (f : α → Bool) {l : List α} {i : Nat} {x : α} (h : l[i]? = some x) : (l.take (i + 1)).filter f = (l.take i).filter f ++ (if f x = true then [x] else []) := by
  rw [take_snoc h, List.filter_append]
  congr 1
  rw [List.filter_cons]
  split <;> rfl
theorem dp_ints {K : PySem.W.Frag} {H : Hp} : ∀ ns : List Int, DpAll K H (ns.map V.int) (ns.map PyData.int)
  | [] => .nil
  | n :: ns => .cons (.int n) (dp_ints ns)
theorem eqv_nil (ns : List Int) : PyData.eqv (.list (ns.map PyData.int)) (.list []) = ns.isEmpty := by
  cases ns with
  | nil => rfl
  | cons n r => rfl
section
variable {P : Program} {w : World} {K : PySem.W.Frag} {mg : Str → Option Value} {base : Heap} {A : Ads}
theorem ok_Store_read_from (T : Txt K mg A) : Ok P w K mg base CX0 2 A.f_Store_read_from P_Store_read_from (sp_read_from A) := by
  obtain ⟨fd, F, b⟩ := T.F_Store_read_from
  obtain ⟨fd_Store_age, b_Store_age, G_Store_age⟩ := ok_Store_age (P := P) (w := w) (base := base) T
  obtain ⟨fd_Store_lines, b_Store_lines, G_Store_lines⟩ := ok_Store_lines (P := P) (w := w) (base := base) T
  obtain ⟨fd_has_all, b_has_all, G_has_all⟩ := ok_has_all (P := P) (w := w) (base := base) T
  refine ⟨fd, b, F.ok sc_Store_read_from (fun vs H Q E h => by
    obtain ⟨q, M, g, a, rfl, _⟩ := h
    rfl) (fun cdv Ar outer s H vs Q E hr h => ?_)⟩
  refine ⟨_, (pss_cons (ps_setLc (i := 3) (own := [("one", 5)]) rfl sc_Store_read_from.nd rfl rfl (sw_true rfl rfl rfl (by decide +kernel)) (pi_list (pe_callB (call_sortedDI rfl) (by rfl) T.n_sorted (by decide +kernel) (pa_cons (pe_fld (pv 0) rfl) pa_nil))) (blkOk_by (own := [("one", 5)]) (N := N_Store_read_from) (sc := defScope s_Store_read_from) (by decide +kernel)) (fun _ _ _ _ _ => (pg_name (i := 5) sc_Store_read_from.nd rfl (by first | exact Or.inl rfl | exact Or.inr rfl))) (fun _ _ _ _ _ => (pts_one (PW.pt (pw_and (pt_val (pe_call G_has_all (hr.mono (by decide)) rfl T.g_has_all T.k_has_all b_has_all .nil pass0 (pa_cons (pv 5) (pa_cons (pv 1) pa_nil)))) (pw_and1 (pt_cmpR op_le (pe_meth (pv 0) T.cl_Store T.m_Store_age G_Store_age (hr.mono (by decide)) b_Store_age .nil pass0 (pa_cons (pv 5) pa_nil)) (pv 2) (nomark _))))))) (fun _ _ _ _ _ => (pv 5)))
    (pss_cons (ps_if (pt_cmpR (op_eqD hr.units) (pv 3) (pe_lst pa_nil) (nomark _)) (pss_one (ps_ret (pe_cI T.c_BY_TABLE))) pss_nil)
    (pss_cons (ps_set (i := 4) sc_Store_read_from.nd rfl (by first | exact Or.inl rfl | exact Or.inr rfl) (pe_callB (cr_min rfl) (by rfl) T.n_min (by decide +kernel) (pa_cons (pe_lc (own := [("one", 5)]) rfl sc_Store_read_from.nd (pi_list (pv 3)) (blkOk_by (own := [("one", 5)]) (N := N_Store_read_from) (sc := defScope s_Store_read_from) (by decide +kernel)) (fun _ _ _ _ _ => (pg_name (i := 5) sc_Store_read_from.nd rfl (by first | exact Or.inl rfl | exact Or.inr rfl))) (fun _ _ _ _ _ => pts_nil) (fun _ _ _ _ _ => (pe_meth (pv 0) T.cl_Store T.m_Store_lines G_Store_lines (hr.mono (by decide)) b_Store_lines .nil pass0 (pa_cons (pv 5) pa_nil)))) pa_nil)))
    (pss_one (ps_ret (pe_ix ix_list (pe_lc (own := [("one", 5)]) rfl sc_Store_read_from.nd (pi_list (pv 3)) (blkOk_by (own := [("one", 5)]) (N := N_Store_read_from) (sc := defScope s_Store_read_from) (by decide +kernel)) (fun _ _ _ _ _ => (pg_name (i := 5) sc_Store_read_from.nd rfl (by first | exact Or.inl rfl | exact Or.inr rfl))) (fun _ _ _ _ _ => (pts_one (pt_cmpR op_eq (pe_meth (pv 0) T.cl_Store T.m_Store_lines G_Store_lines (hr.mono (by decide)) b_Store_lines .nil pass0 (pa_cons (pv 5) pa_nil)) (pv 4) (nomark _)))) (fun _ _ _ _ _ => (pv 5))) pe_int (fun _ _ => rfl))))))), ?_⟩
  obtain ⟨q, M, g, a, rfl, d, hg, k⟩ := h
  have n4 := d.ok.n4
  have k16 := d.ok.k16
  obtain ⟨kvs, hk1, hk2⟩ := d.kept
  refine ⟨_, rfl, q.S, _, _, _, _, rfl, d.self, T.cl_Store, T.na_Store_kept, rfl, q.KD, kvs, _, rfl, .inl hk1, kept_keys hk2, by rw [List.length_map]; omega, fun ys p hperm hpair hp => ?_⟩
  rw [kept_ints d.ok hperm hpair, List.map_map]
  have e1 := Same.new (o := .lst (M.kept.map (V.int ∘ fun x => (x.g : Int)))) hp
  have hp1 : upd H p (.lst (M.kept.map (V.int ∘ fun x => (x.g : Int)))) p = some (.lst (M.kept.map (V.int ∘ fun x => (x.g : Int)))) := upd_same
  generalize upd H p (.lst (M.kept.map (V.int ∘ fun x => (x.g : Int)))) = H1 at e1 hp1 ⊢
  refine ⟨p, rfl, ⟨_, SqL.of hp1⟩, fun D hD => ?_⟩
  refine lc_list (K := K) (a := p) (xs := M.kept.map (V.int ∘ fun x => (x.g : Int))) (fun i H' => Same H1 H' ∧ H' D = some (.lst ((((M.kept.take i).filter fun x => canFrom M.n x.g g && decide (ageM M x ≤ a)).map fun x => (x.g : Int)).map V.int))) ⟨Same.new hD, upd_same⟩ (fun i H' _ h => SqL.of (h.1 _ _ hp1)) ?_ ?_
  · rintro i y H' hi ⟨e, hD'⟩
    obtain ⟨x, hx, rfl⟩ := map_at hi
    have xm := List.mem_of_getElem? hx
    have xk := d.ok.kg x xm
    have d' := d.mono (e1.trans e)
    have ilt : i < M.kept.length := (List.getElem?_eq_some_iff.mp hx).1
    refine ⟨rfl, ?_⟩
    refine ⟨_, rfl, _, rfl, x.g, g, M.n, rfl, n4, xk.1, hg, ⟨_, rfl, ?_⟩⟩
    have no : (canFrom M.n x.g g && decide (ageM M x ≤ a)) = false → Same H1 H' ∧ H' D = some (.lst ((((M.kept.take (i + 1)).filter fun x => canFrom M.n x.g g && decide (ageM M x ≤ a)).map fun x => (x.g : Int)).map V.int)) := fun hf => by
      refine ⟨e, ?_⟩
      rw [filter_take _ hx, hf, if_neg Bool.false_ne_true, List.append_nil]
      exact hD'
    by_cases c1 : canFrom M.n x.g g = true
    · refine iteT' c1 ?_
      refine ⟨_, rfl, q.S, _, _, rfl, d'.self, rfl, _, rfl, q, M, x, rfl, d', findK_of d.ok xm, ?_⟩
      refine ⟨_, rfl, _, _, rfl, rfl, _, rfl, ?_⟩
      by_cases c2 : ageM M x ≤ a
      · refine iteT' (decide_eq_true (by omega)) ?_
        refine ⟨_, rfl, _, hD', ?_, Same.mut e hD, ?_⟩
        · refine sz_lt ?_
          rw [List.length_map, List.length_map]
          have := List.length_filter_le (fun x => canFrom M.n x.g g && decide (ageM M x ≤ a)) (M.kept.take i)
          rw [List.length_take] at this
          omega
        · rw [upd_same, filter_take _ hx, c1, decide_eq_true c2, Bool.true_and, if_pos rfl, List.map_append, List.map_append]
          rfl
      · refine iteF' (decide_eq_false (by omega)) ?_
        exact no (by rw [decide_eq_false c2, Bool.and_false])
    · refine iteF' (Bool.eq_false_iff.mpr c1) ?_
      refine iteF ?_
      exact no (by rw [Bool.eq_false_iff.mpr c1]; rfl)
  rintro H2 ⟨e2, hD2⟩
  rw [List.length_map, List.take_length] at hD2
  have eS : (M.kept.filter fun x => canFrom M.n x.g g && decide (ageM M x ≤ a)) = someL M g a := rfl
  rw [eS] at hD2
  have e02 := e1.trans e2
  have d2 := d.mono e02
  have sl := List.length_filter_le (fun x => canFrom M.n x.g g && decide (ageM M x ≤ a)) M.kept
  rw [eS] at sl
  -- if some == []
  refine ⟨_, rfl, (by show 0 ≤ sizeLine; decide), fun z hz => ?_⟩
  have e3 := Same.new (o := .lst []) hz
  refine ⟨.list (((someL M g a).map fun x => (x.g : Int)).map PyData.int), .list [], .lst (SqL.of (e3 _ _ hD2)) (dp_ints _), .lst (SqL.of upd_same) .nil, PySem.W.ke_shaped_ints _, PySem.W.ke_shaped_ints [], ?_⟩
  rw [eqv_nil]
  refine ⟨_, rfl, ?_⟩
  have e03 := e02.trans e3
  have hD3 := e3 _ _ hD2
  generalize upd H2 z (.lst []) = H3 at e03 hD3 ⊢
  have d3 := d.mono e03
  by_cases c : someL M g a = []
  · refine iteT' (by rw [c]; rfl) ?_
    have := k H3 e03
    rw [c] at this
    exact this
  refine iteF' (by
    cases q : someL M g a with
    | nil => exact absurd q c
    | cons x r => rfl) ?_
  have skept : ∀ x ∈ someL M g a, findK M.kept x.g = some x := fun x hx => findK_of d.ok (List.mem_filter.mp hx).1
  -- fewest
  refine ⟨_, rfl, D, rfl, ⟨_, SqL.of hD3⟩, fun D2 hD2' => ?_⟩
  refine lc_list (K := K) (a := D) (xs := ((someL M g a).map fun x => (x.g : Int)).map V.int) (fun i H' => Same H3 H' ∧ H' D2 = some (.lst ((((someL M g a).take i).map fun x => (x.l.length : Int)).map V.int))) ⟨Same.new hD2', upd_same⟩ (fun i H' _ h => SqL.of (h.1 _ _ hD3)) ?_ ?_
  · rintro i y H' hi ⟨e, hD'⟩
    rw [List.map_map] at hi
    obtain ⟨x, hx, rfl⟩ := map_at hi
    have ilt : i < (someL M g a).length := (List.getElem?_eq_some_iff.mp hx).1
    have d' := d3.mono e
    refine ⟨rfl, ?_⟩
    refine yes_of (iteT ?_)
    refine ⟨_, rfl, q.S, _, _, rfl, d'.self, rfl, _, rfl, q.S, q.KD, x.g, x.l, rfl, d'.linesAt (skept x (List.mem_of_getElem? hx)), ?_⟩
    refine ⟨_, hD', sz_lt (by rw [List.length_map, List.length_map, List.length_take]; omega), Same.mut e hD2', ?_⟩
    rw [upd_same, take_snoc hx, List.map_append, List.map_append]
    rfl
  rintro H4 ⟨e4, hD4⟩
  rw [List.length_map, List.length_map, List.take_length] at hD4
  refine ⟨D2, _, rfl, SqL.of hD4, by rw [List.length_map]; exact List.length_pos_iff.mpr c, fun m hm hle => ?_⟩
  obtain ⟨xm, hxm, rfl⟩ := List.mem_map.mp hm
  have e04 := e03.trans e4
  have d4 := d.mono e04
  have hD4' := e4 _ _ hD3
  -- the first with so many
  refine ⟨_, rfl, D, rfl, ⟨_, SqL.of hD4'⟩, fun D3 hD3' => ?_⟩
  refine lc_list (K := K) (a := D) (xs := ((someL M g a).map fun x => (x.g : Int)).map V.int) (fun i H' => Same H4 H' ∧ H' D3 = some (.lst ((((someL M g a).take i).filter fun z => decide (z.l.length = xm.l.length)).map fun x => V.int (x.g : Int)))) ⟨Same.new hD3', upd_same⟩ (fun i H' _ h => SqL.of (h.1 _ _ hD4')) ?_ ?_
  · rintro i y H' hi ⟨e, hD'⟩
    rw [List.map_map] at hi
    obtain ⟨x, hx, rfl⟩ := map_at hi
    have ilt : i < (someL M g a).length := (List.getElem?_eq_some_iff.mp hx).1
    have d' := d4.mono e
    refine ⟨rfl, ?_⟩
    refine ⟨_, rfl, q.S, _, _, rfl, d'.self, rfl, _, rfl, q.S, q.KD, x.g, x.l, rfl, d'.linesAt (skept x (List.mem_of_getElem? hx)), ?_⟩
    refine ⟨_, rfl, rfl, _, rfl, ?_⟩
    by_cases c2 : x.l.length = xm.l.length
    · refine iteT' (decide_eq_true (by rw [c2])) ?_
      refine ⟨_, rfl, _, hD', ?_, Same.mut e hD3', ?_⟩
      · refine sz_lt ?_
        rw [List.length_map]
        have := List.length_filter_le (fun z => decide (z.l.length = xm.l.length)) ((someL M g a).take i)
        rw [List.length_take] at this
        omega
      · rw [upd_same, filter_take _ hx, decide_eq_true c2, if_pos rfl, List.map_append]
        rfl
    · refine iteF' (decide_eq_false fun z => c2 (Int.ofNat.inj (V.int.inj z))) ?_
      refine ⟨e, ?_⟩
      rw [filter_take _ hx, decide_eq_false c2, if_neg Bool.false_ne_true, List.append_nil]
      exact hD'
  rintro H5 ⟨e5, hD5⟩
  rw [List.length_map, List.length_map, List.take_length] at hD5
  have hmin := firstMin_eq (l := someL M g a) (m := xm.l.length) (fun z hz => by
    have := hle (z.l.length : Int) (List.mem_map.mpr ⟨z, hz, rfl⟩)
    omega) ⟨xm, hxm, rfl⟩
  have hmem : xm ∈ (someL M g a).filter fun z => decide (z.l.length = xm.l.length) := List.mem_filter.mpr ⟨hxm, decide_eq_true rfl⟩
  cases q2 : (someL M g a).filter fun z => decide (z.l.length = xm.l.length) with
  | nil => rw [q2] at hmem; exact (List.not_mem_nil hmem).elim
  | cons x0 r0 =>
    rw [q2] at hD5 hmin
    refine ⟨D3, _, _, _, rfl, rfl, SqL.of hD5, at_of (j := 0) rfl rfl, ?_⟩
    have := k H5 (e04.trans e5)
    rw [← hmin] at this
    exact this
end
end KR
end
section
set_option maxRecDepth 100000
set_option maxHeartbeats 4000000
/-! keeping: cheapest. -/
namespace KR
open PySem PySem.Spec PyProof.Rows L2
open Vamvsa (Group columnsOf canFrom)
section
variable {P : Program} {w : World} {K : PySem.W.Frag} {mg : Str → Option Value} {base : Heap} {A : Ads}
theorem ok_Store_cheapest (T : Txt K mg A) : Ok P w K mg base CX0 4 A.f_Store_cheapest P_Store_cheapest (sp_cheapest A) := by
  obtain ⟨fd, F, b⟩ := T.F_Store_cheapest
  obtain ⟨fd_Store_age, b_Store_age, G_Store_age⟩ := ok_Store_age (P := P) (w := w) (base := base) T
  obtain ⟨fd_Store_since, b_Store_since, G_Store_since⟩ := ok_Store_since (P := P) (w := w) (base := base) T
  obtain ⟨fd_Store_touched, b_Store_touched, G_Store_touched⟩ := ok_Store_touched (P := P) (w := w) (base := base) T
  obtain ⟨fd_has_all, b_has_all, G_has_all⟩ := ok_has_all (P := P) (w := w) (base := base) T
  refine ⟨fd, b, F.ok sc_Store_cheapest (fun vs H Q E h => by
    obtain ⟨q, M, x, rfl, _⟩ := h
    rfl) (fun cdv Ar outer s H vs Q E hr h => ?_)⟩
  refine ⟨_, (pss_cons (ps_set (i := 2) sc_Store_cheapest.nd rfl (by first | exact Or.inl rfl | exact Or.inr rfl) (pe_meth (pv 0) T.cl_Store T.m_Store_since G_Store_since (hr.mono (by decide)) b_Store_since .nil pass0 (pa_cons (pv 1) pa_nil)))
    (pss_cons (ps_set (i := 3) sc_Store_cheapest.nd rfl (by first | exact Or.inl rfl | exact Or.inr rfl) (pe_tup (pa_cons (pe_cI T.c_BY_CHANGES) (pa_cons (pe_callB call_len_seq (by rfl) T.n_len (by decide +kernel) (pa_cons (pv 2) pa_nil)) pa_nil))))
    (pss_cons (ps_for PassesOwn.never rfl (pi_list (pe_callB (call_sortedDI rfl) (by rfl) T.n_sorted (by decide +kernel) (pa_cons (pe_fld (pv 0) rfl) pa_nil))) (pg_name (i := 4) sc_Store_cheapest.nd rfl (by first | exact Or.inl rfl | exact Or.inr rfl)) (pss_one (ps_if (PW.pt (pw_and (pt_cmpR op_ne (pv 4) (pv 1) (nomark _)) (pw_and (pt_val (pe_call G_has_all (hr.mono (by decide)) rfl T.g_has_all T.k_has_all b_has_all .nil pass0 (pa_cons (pv 4) (pa_cons (pv 1) pa_nil)))) (pw_and1 (pt_cmpR op_eq (pe_meth (pv 0) T.cl_Store T.m_Store_age G_Store_age (hr.mono (by decide)) b_Store_age .nil pass0 (pa_cons (pv 4) pa_nil)) (pe_meth (pv 0) T.cl_Store T.m_Store_age G_Store_age (hr.mono (by decide)) b_Store_age .nil pass0 (pa_cons (pv 1) pa_nil)) (nomark _)))))) (pss_cons (ps_set (i := 5) sc_Store_cheapest.nd rfl (by first | exact Or.inl rfl | exact Or.inr rfl) (pe_meth (pv 0) T.cl_Store T.m_Store_touched G_Store_touched (hr.mono (by decide)) b_Store_touched .nil pass0 (pa_cons (pv 4) (pa_cons (pv 2) pa_nil))))
    (pss_one (ps_if (pt_cmpR op_lt (pv 5) (pe_ix ix_tup (pv 3) pe_int (fun _ _ => rfl)) (nomark _)) (pss_one (ps_set (i := 3) sc_Store_cheapest.nd rfl (by first | exact Or.inl rfl | exact Or.inr rfl) (pe_tup (pa_cons (pv 4) (pa_cons (pv 5) pa_nil))))) pss_nil))) pss_nil)))
    (pss_one (ps_ret (pv 3)))))), ?_⟩
  obtain ⟨q, M, x, rfl, d, hx, k⟩ := h
  have n4 := d.ok.n4
  have k16 := d.ok.k16
  have xk := d.ok.kg x (findK_mem hx).1
  have crow : ∀ c ∈ M.chs.drop x.made, RowOk M.n c.2 := fun c hc => d.ok.crow c (List.mem_of_mem_drop hc)
  have c40 : (M.chs.drop x.made).length ≤ 40 := by
    have := d.ok.c40
    rw [List.length_drop]
    omega
  obtain ⟨f, ef⟩ : ∃ f : KI → Bool, f = fun y => y.g != x.g && (canFrom M.n y.g x.g && decide (ageM M y = ageM M x)) := ⟨_, rfl⟩
  obtain ⟨st, est⟩ : ∃ st : Option KI × Nat → KI → Option KI × Nat, st = fun (b : Option KI × Nat) y => if touchL M.n y.g (M.chs.drop x.made) < b.2 then (some y, touchL M.n y.g (M.chs.drop x.made)) else b := ⟨_, rfl⟩
  have ecm : cheapM M x = (M.kept.filter f).foldl st (none, (M.chs.drop x.made).length) := by rw [ef, est]; rfl
  refine ⟨_, rfl, q.S, _, _, rfl, d.self, rfl, _, rfl, q, M, x, rfl, d, hx, fun H1 pc e1 hpc hch => ?_⟩
  obtain ⟨as, hc1, hc2⟩ := hch
  have ela := pr_len hc2
  refine ⟨_, rfl, pc, _, rfl, .inl (SqL.of hc1), (by show 2 ≤ sizeLine; decide), fun t ht => ?_⟩
  rw [List.length_map, ela]
  have e2 := Same.new (o := .tup [V.int (-1), V.int ((M.chs.drop x.made).length : Nat)]) ht
  have ht1 : upd H1 t (.tup [V.int (-1), V.int ((M.chs.drop x.made).length : Nat)]) t = some (.tup [V.int (-1), V.int ((M.chs.drop x.made).length : Nat)]) := upd_same
  have e02 := e1.trans e2
  have hc12 := e2 _ _ hc1
  have hc22 : Paired (ChAt (upd H1 t (.tup [V.int (-1), V.int ((M.chs.drop x.made).length : Nat)]))) as (M.chs.drop x.made) := pr_imp hc2 fun _ _ => ChAt.mono e2
  have d2 := d.mono e02
  obtain ⟨kvs, hk1, hk2⟩ := d2.kept
  refine ⟨_, rfl, q.S, _, _, _, _, rfl, d2.self, T.cl_Store, T.na_Store_kept, rfl, q.KD, kvs, _, rfl, .inl hk1, kept_keys hk2, by rw [List.length_map]; omega, fun ys p hperm hpair hp => ?_⟩
  rw [kept_ints d.ok hperm hpair, List.map_map]
  have e3 := Same.new (o := .lst (M.kept.map (V.int ∘ fun x => (x.g : Int)))) hp
  refine ⟨p, rfl, ⟨_, SqL.of upd_same⟩, for_list (K := K) (a := p) (xs := M.kept.map (V.int ∘ fun x => (x.g : Int)))
    (fun i σ H' => ∃ (ft : Addr) (v4 v5 : Option V), σ = [some (.ref q.S), some (.int (x.g : Int)), some (.ref pc), some (.ref ft), v4, v5] ∧ Same H H' ∧ H' p = some (.lst (M.kept.map (V.int ∘ fun x => (x.g : Int)))) ∧ ChsAt H' pc (M.chs.drop x.made) ∧
      H' ft = some (.tup [V.int (srcI (((M.kept.take i).filter f).foldl st (none, (M.chs.drop x.made).length)).1), V.int ((((M.kept.take i).filter f).foldl st (none, (M.chs.drop x.made).length)).2 : Nat)]))
    ⟨t, none, none, rfl, e02.trans e3, upd_same, ChsAt.mono e3 ⟨as, hc12, hc22⟩, e3 _ _ ht1⟩ (fun i σ H' _ ⟨_, _, _, _, _, h, _⟩ => SqL.of h) ?_ ?_⟩
  · rintro i z σ H' hi ⟨ft, v4, v5, rfl, e4, hp4, hch4, hft⟩
    obtain ⟨y, hy, rfl⟩ := map_at hi
    have ym := List.mem_of_getElem? hy
    have yk := d.ok.kg y ym
    have d4 := d.mono e4
    have skip : f y = false → ∀ (v5' : Option V) (H5 : Hp), Same H' H5 → (∃ (ft' : Addr) (v4' v5'' : Option V), [some (V.ref q.S), some (V.int (x.g : Int)), some (V.ref pc), some (V.ref ft), some (V.int (y.g : Int)), v5'] = [some (.ref q.S), some (.int (x.g : Int)), some (.ref pc), some (.ref ft'), v4', v5''] ∧ Same H H5 ∧ H5 p = some (.lst (M.kept.map (V.int ∘ fun x => (x.g : Int)))) ∧ ChsAt H5 pc (M.chs.drop x.made) ∧
      H5 ft' = some (.tup [V.int (srcI (((M.kept.take (i + 1)).filter f).foldl st (none, (M.chs.drop x.made).length)).1), V.int ((((M.kept.take (i + 1)).filter f).foldl st (none, (M.chs.drop x.made).length)).2 : Nat)])) := fun hf v5' H5 e5 => by
      refine ⟨ft, _, _, rfl, e4.trans e5, e5 _ _ hp4, hch4.mono e5, ?_⟩
      rw [filter_take _ hy, hf, if_neg Bool.false_ne_true, List.append_nil]
      exact e5 _ _ hft
    refine ⟨_, rfl, _, rfl, rfl, _, rfl, ?_⟩
    by_cases c1 : y.g = x.g
    · refine iteF' (by show (!decide (V.int (y.g : Int) = V.int (x.g : Int))) = false; rw [decide_eq_true (by rw [c1])]; rfl) ?_
      refine iteF ?_
      exact skip (by rw [ef]; show (y.g != x.g && _) = false; rw [c1, bne_self_eq_false]; rfl) v5 H' (Same.refl H')
    refine iteT' (by show (!decide (V.int (y.g : Int) = V.int (x.g : Int))) = true; rw [decide_eq_false (show ¬ V.int (y.g : Int) = V.int (x.g : Int) from fun z => c1 (Int.ofNat.inj (V.int.inj z)))]; rfl) ?_
    have c1' : (y.g != x.g) = true := bne_iff_ne.mpr c1
    refine ⟨_, rfl, _, rfl, y.g, x.g, M.n, rfl, n4, yk.1, xk.1, ⟨_, rfl, ?_⟩⟩
    by_cases c2 : canFrom M.n y.g x.g = true
    case neg =>
      refine iteF' (Bool.eq_false_iff.mpr c2) ?_
      refine iteF ?_
      exact skip (by rw [ef]; show (y.g != x.g && (canFrom M.n y.g x.g && _)) = false; rw [Bool.eq_false_iff.mpr c2, Bool.false_and, Bool.and_false]) v5 H' (Same.refl H')
    refine iteT' c2 ?_
    refine ⟨_, rfl, q.S, _, _, rfl, d4.self, rfl, _, rfl, q, M, y, rfl, d4, findK_of d.ok ym, ?_⟩
    refine ⟨_, rfl, q.S, _, _, rfl, d4.self, rfl, _, rfl, q, M, x, rfl, d4, hx, rfl, _, rfl, ?_⟩
    by_cases c3 : ageM M y = ageM M x
    case neg =>
      refine iteF' (decide_eq_false fun z => c3 (Int.ofNat.inj (V.int.inj z))) ?_
      exact skip (by rw [ef]; show (y.g != x.g && (canFrom M.n y.g x.g && decide (ageM M y = ageM M x))) = false; rw [decide_eq_false c3, Bool.and_false, Bool.and_false]) v5 H' (Same.refl H')
    refine iteT' (decide_eq_true (by rw [c3])) ?_
    have hf : f y = true := by
      rw [ef]
      show (y.g != x.g && (canFrom M.n y.g x.g && decide (ageM M y = ageM M x))) = true
      rw [c1', c2, decide_eq_true c3]
      rfl
    refine ⟨_, rfl, q.S, _, _, rfl, d4.self, rfl, _, rfl, _, rfl, q, M, y.g, pc, M.chs.drop x.made, rfl, d4, yk.1, hch4, c40, crow, fun H5 e5 => ?_⟩
    refine ⟨_, rfl, _, rfl, ft, _, _, _, rfl, rfl, SqT.of (e5 _ _ hft), at_of (j := 1) rfl rfl, _, _, rfl, rfl, _, rfl, ?_⟩
    have efold : ((M.kept.take (i + 1)).filter f).foldl st (none, (M.chs.drop x.made).length) = st (((M.kept.take i).filter f).foldl st (none, (M.chs.drop x.made).length)) y := by
      rw [filter_take _ hy, hf, if_pos rfl, List.foldl_append]
      rfl
    by_cases c4 : touchL M.n y.g (M.chs.drop x.made) < (((M.kept.take i).filter f).foldl st (none, (M.chs.drop x.made).length)).2
    · refine iteT' (decide_eq_true (Int.ofNat_lt.mpr c4)) ?_
      refine ⟨_, rfl, _, rfl, (by show 2 ≤ sizeLine; decide), fun t2 ht2 => ?_⟩
      have e6 := Same.new (o := .tup [V.int (y.g : Int), V.int (touchL M.n y.g (M.chs.drop x.made) : Nat)]) ht2
      have e56 := e5.trans e6
      refine ⟨t2, some (.int (y.g : Int)), some (.int (touchL M.n y.g (M.chs.drop x.made) : Nat)), rfl, e4.trans e56, e56 _ _ hp4, hch4.mono e56, ?_⟩
      rw [efold]
      have est2 : st (((M.kept.take i).filter f).foldl st (none, (M.chs.drop x.made).length)) y = (some y, touchL M.n y.g (M.chs.drop x.made)) := by
        rw [est] at c4 ⊢
        exact if_pos c4
      rw [est2]
      exact upd_same
    · refine iteF' (decide_eq_false fun z => c4 (Int.ofNat_lt.mp z)) ?_
      refine ⟨ft, some (.int (y.g : Int)), some (.int (touchL M.n y.g (M.chs.drop x.made) : Nat)), rfl, e4.trans e5, e5 _ _ hp4, hch4.mono e5, ?_⟩
      rw [efold]
      have est2 : st (((M.kept.take i).filter f).foldl st (none, (M.chs.drop x.made).length)) y = ((M.kept.take i).filter f).foldl st (none, (M.chs.drop x.made).length) := by
        rw [est] at c4 ⊢
        exact if_neg c4
      rw [est2]
      exact e5 _ _ hft
  · rintro σ H' ⟨ft, v4, v5, rfl, e4, hp4, hch4, hft⟩
    rw [List.length_map, List.take_length, ← ecm] at hft
    exact ⟨_, rfl, k H' ft e4 hft⟩
end
end KR
end
section
set_option maxRecDepth 100000
set_option maxHeartbeats 4000000
/-! the store's law: the program's store against the specification's. -/
namespace KR
open PySem PySem.Spec PyProof.Rows L2
open Vamvsa (Group columnsOf canFrom collect putGroup groupsOf width rolled)
open Vamvsc (Held Change done replay diff withDiffs)
abbrev SStore := Vamvsc.Store
def rowG (n g : Nat) (r : SRow) : Group := ⟨Vamvsa.keyOf n g r.vs, r.m, 1⟩
theorem groupsOf_eq (t : Vamvsa.Table) (g : Nat) : groupsOf t g = collect (t.rows.map (rowG (width t) g)) := rfl
theorem rowG_len (n g : Nat) (rs : List SRow) : ∀ x ∈ rs.map (rowG n g), x.key.length = (columnsOf n g).length := fun x hx => by
  obtain ⟨r, -, rfl⟩ := List.mem_map.mp hx
  exact keyOf_len n g r.vs
theorem groups_SL (t : Vamvsa.Table) (g : Nat) : SL (columnsOf (width t) g).length (groupsOf t g) := SL.collect (rowG_len _ _ _)
theorem pos_put {x : Group} (hx : 0 < x.n) : ∀ {l : List Group}, (∀ y ∈ l, 0 < y.n) → ∀ z ∈ putGroup x l, 0 < z.n
  | [], _, z, hz => by
    have e : z = x := by simpa [putGroup] using hz
    rw [e]; exact hx
  | y :: r, h, z, hz => by
    unfold putGroup at hz
    have hy := h y List.mem_cons_self
    split at hz
    · rcases List.mem_cons.mp hz with q | q
      · rw [q]; exact Nat.lt_of_lt_of_le hy (Nat.le_add_right _ _)
      · exact h z (List.mem_cons_of_mem _ q)
    · split at hz
      · rcases List.mem_cons.mp hz with q | q
        · rw [q]; exact hx
        · exact h z q
      · rcases List.mem_cons.mp hz with q | q
        · rw [q]; exact hy
        · exact pos_put hx (fun y hy => h y (List.mem_cons_of_mem _ hy)) z q
theorem pos_all : ∀ (xs acc : List Group), (∀ x ∈ xs, 0 < x.n) → (∀ y ∈ acc, 0 < y.n) → ∀ z ∈ putAll xs acc, 0 < z.n
  | [], _, _, h => h
  | x :: r, acc, hx, h => pos_all r _ (fun y hy => hx y (List.mem_cons_of_mem _ hy)) (pos_put (hx x List.mem_cons_self) h)
theorem groups_pos (t : Vamvsa.Table) (g : Nat) : ∀ z ∈ groupsOf t g, 0 < z.n := pos_all _ [] (fun x hx => by
  obtain ⟨r, -, rfl⟩ := List.mem_map.mp hx
  exact Nat.one_pos) fun _ h => (List.not_mem_nil h).elim
theorem put_has (x : Group) : ∀ l : List Group, ∃ z ∈ putGroup x l, z.key = x.key
  | [] => ⟨x, by simp [putGroup], rfl⟩
  | y :: r => by
    unfold putGroup
    split
    · rename_i e
      exact ⟨_, List.mem_cons_self, e.symm⟩
    · split
      · exact ⟨x, List.mem_cons_self, rfl⟩
      · obtain ⟨z, h1, h2⟩ := put_has x r
        exact ⟨z, List.mem_cons_of_mem _ h1, h2⟩
theorem takeG_none {k : List Nat} {m : Int} {l : List Group} (h : ∀ y ∈ l, y.key ≠ k ∧ 0 < y.n) : takeG k m l = l := by
  unfold takeG
  have : l.map (fun x => if x.key = k then ({ x with sum := x.sum - m, n := x.n - 1 } : Group) else x) = l := by
    have := List.map_congr_left (f := fun x : Group => if x.key = k then ({ x with sum := x.sum - m, n := x.n - 1 } : Group) else x) (g := id) (l := l) fun x hx => if_neg (h x hx).1
    rw [this, List.map_id]
  rw [this]
  exact List.filter_eq_self.mpr fun x hx => decide_eq_true (h x hx).2
theorem takeG_cons (k : List Nat) (m : Int) (a : Group) (l : List Group) : takeG k m (a :: l) = (if 0 < (if a.key = k then ({ a with sum := a.sum - m, n := a.n - 1 } : Group) else a).n then [if a.key = k then ({ a with sum := a.sum - m, n := a.n - 1 } : Group) else a] else []) ++ takeG k m l := by
  unfold takeG
  rw [List.map_cons, List.filter_cons]
  by_cases c : 0 < (if a.key = k then ({ a with sum := a.sum - m, n := a.n - 1 } : Group) else a).n
  · rw [if_pos c, decide_eq_true c, if_pos rfl]
    rfl
  · rw [if_neg c, decide_eq_false c, if_neg Bool.false_ne_true]
    rfl
theorem take_put {w : Nat} {k : List Nat} {m : Int} : ∀ {L : List Group}, SL w L → (∀ y ∈ L, 0 < y.n) → takeG k m (putGroup ⟨k, m, 1⟩ L) = L
  | [], _, _ => by
    show takeG k m [⟨k, m, 1⟩] = []
    rw [takeG_cons, if_pos rfl]
    rfl
  | y :: r, sl, pos => by
    have hy := pos y List.mem_cons_self
    have pr : ∀ z ∈ r, 0 < z.n := fun z hz => pos z (List.mem_cons_of_mem _ hz)
    unfold putGroup
    split
    · rename_i e
      have e' : k = y.key := e
      rw [takeG_cons]
      have h1 : (if (⟨y.key, y.sum + m, y.n + 1⟩ : Group).key = k then ({ (⟨y.key, y.sum + m, y.n + 1⟩ : Group) with sum := (y.sum + m) - m, n := y.n + 1 - 1 } : Group) else ⟨y.key, y.sum + m, y.n + 1⟩) = y := by
        rw [if_pos e'.symm]
        show (⟨y.key, y.sum + m - m, y.n + 1 - 1⟩ : Group) = y
        rw [Int.add_sub_cancel, Nat.add_sub_cancel]
      show (if 0 < (if (⟨y.key, y.sum + m, y.n + 1⟩ : Group).key = k then ({ (⟨y.key, y.sum + m, y.n + 1⟩ : Group) with sum := (y.sum + m) - m, n := y.n + 1 - 1 } : Group) else ⟨y.key, y.sum + m, y.n + 1⟩).n then _ else _) ++ _ = _
      rw [h1, if_pos hy, takeG_none fun z hz => ⟨fun q => lex_ne (sl.head z hz) (by rw [q, e']), pr z hz⟩]
      rfl
    · rename_i e
      split
      · rename_i g
        rw [takeG_cons, if_pos rfl]
        show [] ++ _ = _
        rw [List.nil_append]
        refine takeG_none fun z hz => ?_
        rcases List.mem_cons.mp hz with q | q
        · rw [q]
          exact ⟨fun q2 => e q2.symm, hy⟩
        · exact ⟨fun q2 => lex_ne (lex_trans g (sl.head z q)) q2.symm, pr z q⟩
      · have hk : (if y.key = k then ({ y with sum := y.sum - m, n := y.n - 1 } : Group) else y) = y := if_neg fun q => e q.symm
        rw [takeG_cons, hk, if_pos hy, take_put sl.tail pr]
        rfl
theorem fold_perm {w : Nat} : ∀ (xs l m : List Group), (∀ x ∈ xs, x.key.length = w ∧ 0 < x.n) → l.Perm m → SL w m →
    (xs.foldl (fun acc x => wm acc x.key x.sum (x.n : Int)) l).Perm (putAll xs m)
  | [], l, m, _, p, _ => p
  | x :: xs, l, m, h, p, sl => by
    obtain ⟨h1, h2⟩ := h x List.mem_cons_self
    exact fold_perm xs _ _ (fun y hy => h y (List.mem_cons_of_mem _ hy)) (wm_put p sl h2) (sl.put (x := ⟨x.key, x.sum, x.n⟩) h1)
theorem ansL_perm (n g : Nat) (rs : List SRow) : (ansL n g rs).Perm (collect (rs.map (rowG n g))) := by
  have e : ansL n g rs = (rs.map (rowG n g)).foldl (fun acc x => wm acc x.key x.sum (x.n : Int)) [] := by
    unfold ansL
    rw [List.foldl_map]
    rfl
  rw [e]
  exact fold_perm _ [] [] (fun x hx => ⟨rowG_len n g rs x hx, by
    obtain ⟨r, -, rfl⟩ := List.mem_map.mp hx
    exact Nat.one_pos⟩) (List.Perm.refl _) SL.nil
def projG (n b s : Nat) (x : Group) : Group := ⟨projK n b s x.key, x.sum, x.n⟩
theorem rolled_eq (n b s : Nat) (l : List Group) : rolled n b s l = collect (l.map (projG n b s)) := rfl
theorem projG_len (n b s : Nat) (l : List Group) : ∀ x ∈ l.map (projG n b s), x.key.length = (columnsOf n s).length := fun x hx => by
  obtain ⟨r, -, rfl⟩ := List.mem_map.mp hx
  exact List.length_map ..
theorem rolled_SL (n b s : Nat) (l : List Group) : SL (columnsOf n s).length (rolled n b s l) := SL.collect (projG_len _ _ _ _)
theorem rollL_perm {n b s : Nat} {l m : List Group} (p : l.Perm m) (pos : ∀ x ∈ m, 0 < x.n) : (rollL n b s l).Perm (rolled n b s m) := by
  have e : rollL n b s l = (l.map (projG n b s)).foldl (fun acc x => wm acc x.key x.sum (x.n : Int)) [] := by
    unfold rollL
    rw [List.foldl_map]
    rfl
  rw [e, rolled_eq, ← collect_perm (p.map (projG n b s)) (projG_len n b s l)]
  exact fold_perm _ [] [] (fun x hx => ⟨projG_len n b s l x hx, by
    obtain ⟨r, hr, rfl⟩ := List.mem_map.mp hx
    exact pos r (p.mem_iff.mp hr)⟩) (List.Perm.refl _) SL.nil
theorem done_width (t : Vamvsa.Table) (c : Change) : width (done t c) = width t := by
  unfold done
  split <;> rfl
theorem row_back {rs : List SRow} {i : Nat} {r : SRow} (h : rs[i]? = some r) : rs.Perm (rs.eraseIdx i ++ [r]) := by
  obtain ⟨lt, e⟩ := List.getElem?_eq_some_iff.mp h
  rw [List.eraseIdx_eq_take_drop_succ]
  have h1 : rs = rs.take i ++ r :: rs.drop (i + 1) := by
    rw [← e, ← List.drop_eq_getElem_cons lt, List.take_append_drop]
  have h2 : (rs.take i ++ r :: rs.drop (i + 1)).Perm (r :: (rs.take i ++ rs.drop (i + 1))) := List.perm_middle
  exact (List.Perm.of_eq h1).trans (h2.trans (List.perm_append_comm (l₁ := [r])))
theorem diff_put {n g : Nat} {c : Change} {l : List Group} (h : c.put = true) : diff n g c l = (putGroup ⟨Vamvsa.keyOf n g c.r.vs, c.r.m, 1⟩ l).filter fun x => decide (0 < x.n) := by
  show ((if c.put = true then _ else _ : List Group).filter _) = _
  rw [if_pos h]
theorem diff_take {n g : Nat} {c : Change} {l : List Group} (h : c.put = false) : diff n g c l = takeG (Vamvsa.keyOf n g c.r.vs) c.r.m l := by
  show ((if c.put = true then _ else _ : List Group).filter _) = _
  rw [if_neg (by rw [h]; exact Bool.false_ne_true)]
  rfl
/-- one change: the specification's difference, and the program's -/
theorem diff_step {t : Vamvsa.Table} {c : Change} (g : Nat) (hv : c.put = false → t.rows[c.i]? = some c.r) :
    diff (width t) g c (groupsOf t g) = groupsOf (done t c) g ∧ ∀ l : List Group, l.Perm (groupsOf t g) →
      (wm l (Vamvsa.keyOf (width t) g c.r.vs) (way c.put * c.r.m) (way c.put)).Perm (groupsOf (done t c) g) ∧ 0 ≤ ((oldL l (Vamvsa.keyOf (width t) g c.r.vs)).n : Int) + way c.put := by
  cases hp : c.put with
  | true =>
    have ed : done t c = { t with rows := t.rows ++ [c.r] } := if_pos hp
    have eg : groupsOf (done t c) g = putGroup (rowG (width t) g c.r) (groupsOf t g) := by
      rw [ed, groupsOf_eq, groupsOf_eq]
      show collect ((t.rows ++ [c.r]).map (rowG (width t) g)) = _
      rw [List.map_append]
      exact collect_snoc _ _
    refine ⟨?_, fun l p => ⟨?_, ?_⟩⟩
    · rw [diff_put hp, eg]
      exact List.filter_eq_self.mpr fun x hx => decide_eq_true (pos_put (x := rowG (width t) g c.r) Nat.one_pos (groups_pos t g) x hx)
    · rw [eg]
      have := wm_put (k := Vamvsa.keyOf (width t) g c.r.vs) (s := c.r.m) (n := 1) p (groups_SL t g) Nat.one_pos
      show (wm l _ (1 * c.r.m) 1).Perm _
      rw [Int.one_mul]
      exact this
    · show 0 ≤ _ + (1 : Int)
      omega
  | false =>
    have hr := hv hp
    have ed : done t c = { t with rows := t.rows.eraseIdx c.i } := if_neg (by rw [hp]; exact Bool.false_ne_true)
    have eg : groupsOf t g = putGroup (rowG (width t) g c.r) (groupsOf (done t c) g) := by
      rw [ed, groupsOf_eq, groupsOf_eq]
      show _ = putGroup (rowG (width t) g c.r) (collect ((t.rows.eraseIdx c.i).map (rowG (width t) g)))
      rw [← collect_snoc]
      have p := (row_back hr).map (rowG (width t) g)
      rw [List.map_append] at p
      exact collect_perm p (rowG_len _ _ _)
    have sl2 : SL (columnsOf (width t) g).length (groupsOf (done t c) g) := by
      have := groups_SL (done t c) g
      rw [done_width] at this
      exact this
    have et : takeG (Vamvsa.keyOf (width t) g c.r.vs) c.r.m (groupsOf t g) = groupsOf (done t c) g := by
      rw [eg]
      exact take_put sl2 (groups_pos _ g)
    have hh : ∃ x ∈ groupsOf t g, x.key = Vamvsa.keyOf (width t) g c.r.vs := by
      rw [eg]
      exact put_has (rowG (width t) g c.r) _
    refine ⟨?_, fun l p => ⟨?_, ?_⟩⟩
    · rw [diff_take hp]
      exact et
    · have := wm_take (s := c.r.m) p (groups_SL t g).nk (groups_pos t g) hh
      rw [et] at this
      exact this
    · obtain ⟨y, hy, ey⟩ := hh
      have nl := nk_perm p (groups_SL t g).nk
      have f := findL_of nl (p.mem_iff.mpr hy)
      rw [ey] at f
      have h0 := groups_pos t g y hy
      unfold oldL
      rw [f]
      show 0 ≤ (y.n : Int) + (-1)
      omega
end KR
end
section
set_option maxRecDepth 100000
set_option maxHeartbeats 4000000
/-! the store's law: what the two stores have in common. -/
namespace KR
open PySem PySem.Spec PyProof.Rows L2
open Vamvsa (Group columnsOf canFrom collect putGroup groupsOf width rolled)
open Vamvsc (Held Change done replay diff withDiffs)
def KRel (z : Held) (x : KI) (s : SStore) : Prop := x.g = s.g ∧ x.made = s.at_ ∧ s.at_ ≤ z.log.length ∧ x.l.Perm s.lines ∧ s.lines = groupsOf (replay z s.at_) s.g
structure Rel (M : Mz) (z : Held) : Prop where
  n : width z.first = M.n
  cur : z.t = replay z z.log.length
  hist : M.hist = (List.range (z.log.length + 1)).map fun i => (replay z i).rows
  chs : M.chs = z.log.map fun c => (c.put, c.r)
  log : ∀ i c, z.log[i]? = some c → c.put = false → (replay z i).rows[c.i]? = some c.r
  kept : Paired (KRel z) M.kept z.kept
theorem fold_width : ∀ (cs : List Change) (t : Vamvsa.Table), width (cs.foldl done t) = width t
  | [], _ => rfl
  | c :: cs, t => (fold_width cs (done t c)).trans (done_width t c)
theorem replay_width (z : Held) (i : Nat) : width (replay z i) = width z.first := fold_width _ _
theorem replay_succ {z : Held} {i : Nat} {c : Change} (h : z.log[i]? = some c) : replay z (i + 1) = done (replay z i) c := by
  unfold replay
  rw [take_snoc h, List.foldl_append]
  rfl
section
variable {M : Mz} {z : Held}
theorem Rel.wt (r : Rel M z) : width z.t = M.n := by rw [r.cur, replay_width, r.n]
theorem Rel.chl (r : Rel M z) : M.chs.length = z.log.length := by rw [r.chs, List.length_map]
theorem Rel.histAt (r : Rel M z) {i : Nat} (h : i ≤ z.log.length) : M.hist[i]? = some (replay z i).rows := by
  rw [r.hist, List.getElem?_map, List.getElem?_range (by omega)]
  rfl
theorem Rel.now (r : Rel M z) : nowM M = z.t.rows := by
  unfold nowM
  have hl : M.hist.length = z.log.length + 1 := by rw [r.hist, List.length_map, List.length_range]
  rw [List.getLast?_eq_getElem?, hl, Nat.add_sub_cancel, r.histAt (Nat.le_refl _), ← r.cur]
  rfl
theorem Rel.ans (r : Rel M z) (i g : Nat) : (ansL M.n g (replay z i).rows).Perm (groupsOf (replay z i) g) := by
  have := ansL_perm M.n g (replay z i).rows
  rw [groupsOf_eq, replay_width, r.n]
  exact this
theorem Rel.push (r : Rel M z) {c : Change} (hv : c.put = false → z.t.rows[c.i]? = some c.r) : Rel (pushM M c.put c.r (done z.t c).rows) { z with t := done z.t c, log := z.log ++ [c] } := by
  have old : ∀ i, i ≤ z.log.length → replay { z with t := done z.t c, log := z.log ++ [c] } i = replay z i := fun i hi => by
    show ((z.log ++ [c]).take i).foldl done z.first = _
    rw [List.take_append_of_le_length hi]
    rfl
  have new : replay { z with t := done z.t c, log := z.log ++ [c] } (z.log.length + 1) = done z.t c := by
    rw [replay_succ (c := c) (by show (z.log ++ [c])[z.log.length]? = _; simp), old _ (Nat.le_refl _), ← r.cur]
  refine ⟨r.n, ?_, ?_, ?_, fun i c2 hi hp => ?_, pr_imp r.kept fun x s ⟨h1, h2, h3, h4, h5⟩ => ⟨h1, h2, ?_, h4, ?_⟩⟩
  · show done z.t c = replay _ (z.log ++ [c]).length
    rw [List.length_append]
    exact new.symm
  · show M.hist ++ [(done z.t c).rows] = (List.range ((z.log ++ [c]).length + 1)).map _
    rw [List.length_append]
    show _ = (List.range (z.log.length + 1 + 1)).map _
    rw [List.range_succ, List.map_append, r.hist]
    congr 1
    · refine List.map_congr_left fun i hi => ?_
      have := List.mem_range.mp hi
      rw [old i (by omega)]
    · exact congrArg (fun t : Vamvsa.Table => [t.rows]) new.symm
  · show M.chs ++ [(c.put, c.r)] = (z.log ++ [c]).map _
    rw [r.chs, List.map_append]
    rfl
  · have hi2 : (z.log ++ [c])[i]? = some c2 := hi
    by_cases e : i < z.log.length
    · rw [List.getElem?_append_left e] at hi2
      rw [old i (by omega)]
      exact r.log i c2 hi2 hp
    · have e2 : i = z.log.length := by
        have := (List.getElem?_eq_some_iff.mp hi2).1
        rw [List.length_append] at this
        have : i < z.log.length + 1 := this
        omega
      subst e2
      have e3 : c2 = c := by
        rw [List.getElem?_append_right (Nat.le_refl _), Nat.sub_self] at hi2
        exact (Option.some.inj hi2).symm
      subst e3
      rw [old _ (Nat.le_refl _), ← r.cur]
      exact hv hp
  · show s.at_ ≤ (z.log ++ [c]).length
    rw [List.length_append]
    omega
  · rw [h5, old _ h3]
theorem Rel.load (t : Vamvsa.Table) : Rel ⟨width t, [t.rows], [], []⟩ (Vamvsc.start_ t) := ⟨rfl, rfl, rfl, rfl, fun i c h => (nomatch h), .nil⟩
theorem Rel.find (r : Rel M z) (g : Nat) : (findK M.kept g = none ∧ Vamvsc.storeOf z g = none) ∨ ∃ x s, findK M.kept g = some x ∧ Vamvsc.storeOf z g = some s ∧ KRel z x s := by
  unfold findK Vamvsc.storeOf
  have aux : ∀ {l : List KI} {m : List SStore}, Paired (KRel z) l m → (l.find? (fun x => decide (x.g = g)) = none ∧ m.find? (fun s => s.g == g) = none) ∨ ∃ x s, l.find? (fun x => decide (x.g = g)) = some x ∧ m.find? (fun s => s.g == g) = some s ∧ KRel z x s := by
    intro l m h
    induction h with
    | nil => exact .inl ⟨rfl, rfl⟩
    | @cons x s xs ss h t ih =>
      by_cases e : x.g = g
      · refine .inr ⟨x, s, ?_, ?_, h⟩
        · rw [List.find?_cons, decide_eq_true e]
        · rw [List.find?_cons, show (s.g == g) = true from by rw [← h.1, e]; exact beq_self_eq_true g]
      · rw [List.find?_cons, List.find?_cons, decide_eq_false e, show (s.g == g) = false from by rw [← h.1]; exact beq_eq_false_iff_ne.mpr e]
        exact ih
  exact aux r.kept
theorem put_len (x : Group) : ∀ l : List Group, (putGroup x l).length ≤ l.length + 1
  | [] => by simp [putGroup]
  | y :: r => by
    unfold putGroup
    split
    · simp
    · split
      · simp
      · have := put_len x r
        rw [List.length_cons, List.length_cons]
        omega
theorem putAll_len : ∀ (xs acc : List Group), (putAll xs acc).length ≤ acc.length + xs.length
  | [], _ => Nat.le_refl _
  | x :: r, acc => by
    have h1 := putAll_len r (putGroup x acc)
    have h2 := put_len x acc
    show (putAll r (putGroup x acc)).length ≤ _
    rw [List.length_cons]
    omega
theorem groups_len (t : Vamvsa.Table) (g : Nat) : (groupsOf t g).length ≤ t.rows.length := by
  have : (putAll (t.rows.map (rowG (width t) g)) []).length ≤ 0 + (t.rows.map (rowG (width t) g)).length := putAll_len _ _
  rw [List.length_map, Nat.zero_add] at this
  exact this
theorem Rel.rows16 (r : Rel M z) (ok : MOk M) {i : Nat} (h : i ≤ z.log.length) : (replay z i).rows.length ≤ 16 ∧ ∀ x ∈ (replay z i).rows, RowOk M.n x := ok.rows _ (List.mem_of_getElem? (r.histAt h))
/-- a kept answer's changes, one behind another -/
theorem Rel.steps (r : Rel M z) {x : KI} {s : SStore} (k : KRel z x s) : ∀ j, s.at_ + j ≤ z.log.length →
    (refL M.n x.g x.l ((M.chs.drop x.made).take j)).Perm (groupsOf (replay z (s.at_ + j)) s.g) ∧ withDiffs M.n s.g ((z.log.drop s.at_).take j) s.lines = groupsOf (replay z (s.at_ + j)) s.g
  | 0, _ => by
    obtain ⟨h1, h2, h3, h4, h5⟩ := k
    refine ⟨?_, ?_⟩
    · show x.l.Perm _
      rw [Nat.add_zero, ← h5]
      exact h4
    · exact h5
  | j + 1, hj => by
    obtain ⟨p1, p2⟩ := Rel.steps r k j (by omega)
    obtain ⟨h1, h2, h3, h4, h5⟩ := k
    obtain ⟨c, hc⟩ : ∃ c, z.log[s.at_ + j]? = some c := ⟨_, List.getElem?_eq_getElem (by omega)⟩
    have hc1 : (z.log.drop s.at_)[j]? = some c := by rw [List.getElem?_drop]; exact hc
    have hc2 : (M.chs.drop x.made)[j]? = some (c.put, c.r) := by rw [h2, r.chs, List.getElem?_drop, List.getElem?_map, hc]; rfl
    obtain ⟨q1, q2⟩ := diff_step s.g (r.log _ _ hc)
    rw [replay_width, r.n] at q1 q2
    rw [← replay_succ hc] at q1 q2
    refine ⟨?_, ?_⟩
    · rw [take_snoc hc2, refL_snoc, h1]
      rw [h1] at p1
      exact (q2 _ p1).1
    · rw [take_snoc hc1]
      unfold withDiffs at p2 ⊢
      rw [List.foldl_append, p2]
      exact q1
theorem Rel.neg (r : Rel M z) {x : KI} {s : SStore} (k : KRel z x s) : ∀ i c, (M.chs.drop x.made)[i]? = some c → 0 ≤ ((oldL (refL M.n x.g x.l ((M.chs.drop x.made).take i)) (Vamvsa.keyOf M.n x.g c.2.vs)).n : Int) + way c.1 := by
  intro i c hi
  have k' := k
  obtain ⟨h1, h2, h3, h4, h5⟩ := k'
  rw [h2, r.chs, List.getElem?_drop, List.getElem?_map] at hi
  cases hc : z.log[s.at_ + i]? with
  | none => rw [hc] at hi; cases hi
  | some cc =>
    rw [hc] at hi
    cases hi
    have lt := (List.getElem?_eq_some_iff.mp hc).1
    obtain ⟨p1, -⟩ := r.steps k i (by omega)
    obtain ⟨-, q2⟩ := diff_step s.g (r.log _ _ hc)
    rw [replay_width, r.n] at q2
    rw [h1] at p1 ⊢
    rw [h2] at p1 ⊢
    exact (q2 _ p1).2
theorem Rel.whole (r : Rel M z) {x : KI} {s : SStore} (k : KRel z x s) : (refL M.n x.g x.l (M.chs.drop x.made)).Perm (groupsOf z.t s.g) ∧ (Vamvsc.refreshed z s).lines = groupsOf z.t s.g := by
  have k' := k
  obtain ⟨h1, h2, h3, h4, h5⟩ := k'
  obtain ⟨p1, p2⟩ := r.steps k (z.log.length - s.at_) (by omega)
  rw [show s.at_ + (z.log.length - s.at_) = z.log.length from by omega, ← r.cur] at p1 p2
  have e1 : (M.chs.drop x.made).take (z.log.length - s.at_) = M.chs.drop x.made := by
    refine List.take_of_length_le ?_
    rw [List.length_drop, r.chl, h2]
    exact Nat.le_refl _
  have e2 : (z.log.drop s.at_).take (z.log.length - s.at_) = z.log.drop s.at_ := by
    refine List.take_of_length_le ?_
    rw [List.length_drop]
    exact Nat.le_refl _
  rw [e1] at p1
  rw [e2] at p2
  refine ⟨p1, ?_⟩
  show withDiffs (width z.t) s.g (z.log.drop s.at_) s.lines = _
  rw [r.wt]
  exact p2
theorem pr_map2 {α β γ δ : Type} {F : α → β → Prop} {G : γ → δ → Prop} {f : α → γ} {g : β → δ} {l : List α} {m : List β} (h : Paired F l m) (k : ∀ a b, F a b → G (f a) (g b)) : Paired G (l.map f) (m.map g) := by
  induction h with
  | nil => exact .nil
  | cons r t ih => exact .cons (k _ _ r) ih
theorem Rel.refresh (r : Rel M z) {x : KI} {s : SStore} (k : KRel z x s) : Rel { M with kept := replK M.kept ⟨x.g, refL M.n x.g x.l (M.chs.drop x.made), M.chs.length⟩ } (Vamvsc.putStore z (Vamvsc.refreshed z s)) := by
  obtain ⟨w1, w2⟩ := r.whole k
  refine ⟨r.n, r.cur, r.hist, r.chs, r.log, ?_⟩
  show Paired (KRel z) (M.kept.map fun y => if y.g = x.g then _ else y) (z.kept.map fun y => if y.g = s.g then _ else y)
  refine pr_map2 r.kept fun y u hu => ?_
  by_cases c : y.g = x.g
  · rw [if_pos c, if_pos (by rw [← hu.1, c, k.1])]
    refine ⟨k.1, r.chl, Nat.le_refl _, ?_, ?_⟩
    · show (refL M.n x.g x.l (M.chs.drop x.made)).Perm (Vamvsc.refreshed z s).lines
      rw [w2]
      exact w1
    · rw [w2]
      show groupsOf z.t s.g = groupsOf (replay z z.log.length) s.g
      rw [← r.cur]
  · rw [if_neg c, if_neg fun q => c (by rw [hu.1, q, k.1])]
    exact hu
theorem sorted_nat : ∀ {l m : List Nat}, l.Pairwise (· < ·) → m.Pairwise (· < ·) → (∀ g, g ∈ l ↔ g ∈ m) → l = m := by
  intro l m hl hm h
  have p : l.Perm m := (List.perm_ext_iff_of_nodup (hl.imp Nat.ne_of_lt) (hm.imp Nat.ne_of_lt)).mpr h
  exact List.Perm.eq_of_pairwise (le := fun a b => a < b) (fun a b _ _ h1 h2 => absurd (Nat.lt_trans h1 h2) (Nat.lt_irrefl _)) hl hm p
def keptS (z : Held) (gs : List Nat) : List SStore := gs.map fun g => match Vamvsc.storeOf z g with
  | some s => s
  | none => ⟨g, groupsOf z.t g, z.log.length⟩
theorem Rel.keep (r : Rel M z) (gs : List Nat) : Rel { M with kept := keepL M gs } { z with kept := keptS z gs } := by
  refine ⟨r.n, r.cur, r.hist, r.chs, r.log, ?_⟩
  show Paired (KRel z) (keepL M gs) (keptS z gs)
  unfold keepL keptS
  induction gs with
  | nil => exact .nil
  | cons g gs ih =>
    refine .cons ?_ ih
    show KRel z (match findK M.kept g with
        | some x => x
        | none => ⟨g, ansL M.n g (nowM M), M.chs.length⟩) (match Vamvsc.storeOf z g with
        | some s => s
        | none => ⟨g, groupsOf z.t g, z.log.length⟩)
    rcases r.find g with ⟨h1, h2⟩ | ⟨x, s, h1, h2, h3⟩
    · rw [h1, h2]
      refine ⟨rfl, r.chl, Nat.le_refl _, ?_, ?_⟩
      · have := r.ans z.log.length g
        rw [← r.cur] at this
        rw [r.now]
        exact this
      · rw [← r.cur]
    · rw [h1, h2]
      exact h3
theorem keep_gs (r : Rel M z) {gs : List Nat} {ns : List Int} (hs : gs.Pairwise (· < ·)) (hm : ∀ g : Nat, g ∈ gs ↔ (g : Int) ∈ ns) (hn : ∀ i ∈ ns, 0 ≤ i ∧ i < ((2 ^ M.n : Nat) : Int)) :
    gs = (Vamvsa.groupings z.t).filter fun (g : Nat) => ns.contains (g : Int) := by
  refine sorted_nat hs (List.pairwise_lt_range.filter _) fun g => ?_
  rw [hm, List.mem_filter, List.contains_iff_mem]
  constructor
  · intro h
    refine ⟨?_, h⟩
    show g ∈ List.range (2 ^ width z.t)
    rw [r.wt]
    exact List.mem_range.mpr (Int.ofNat_lt.mp (hn _ h).2)
  · exact fun h => h.2
theorem pr_foldl {α β γ δ : Type} {F : α → β → Prop} {S : γ → δ → Prop} {f : γ → α → γ} {g : δ → β → δ} {l : List α} {m : List β} (h : Paired F l m) (k : ∀ b b' x y, S b b' → F x y → S (f b x) (g b' y)) : ∀ {b : γ} {b' : δ}, S b b' → S (l.foldl f b) (m.foldl g b') := by
  induction h with
  | nil => exact fun h => h
  | cons r t ih => exact fun hb => ih (k _ _ _ _ hb r)
theorem pr_filter {α β : Type} {F : α → β → Prop} {p : α → Bool} {q : β → Bool} {l : List α} {m : List β} (h : Paired F l m) (k : ∀ x y, F x y → p x = q y) : Paired F (l.filter p) (m.filter q) := by
  induction h with
  | nil => exact .nil
  | @cons x y xs ys r t ih =>
    rw [List.filter_cons, List.filter_cons, k x y r]
    split
    · exact .cons r ih
    · exact ih
inductive ORel (z : Held) : Option KI → Option SStore → Prop
  | none : ORel z none none
  | some {x : KI} {s : SStore} : KRel z x s → ORel z (some x) (some s)
theorem Rel.age (r : Rel M z) {x : KI} {s : SStore} (k : KRel z x s) : ageM M x = Vamvsc.age z s := by
  unfold ageM Vamvsc.age
  rw [r.chl, k.2.1]
theorem Rel.readBy (r : Rel M z) (g a : Nat) : ORel z (firstMin (someL M g a)) (Vamvsc.readBy z g a) := by
  unfold firstMin someL Vamvsc.readBy
  rw [List.foldl_filter]
  refine pr_foldl (S := ORel z) r.kept (fun b b' x s hb hk => ?_) .none
  have len : x.l.length = s.lines.length := hk.2.2.2.1.length_eq
  unfold Vamvsc.better
  rw [r.wt, hk.1, r.age hk]
  by_cases c : (canFrom M.n s.g g && decide (Vamvsc.age z s ≤ a)) = true
  · rw [if_pos c]
    rw [Bool.and_eq_true, decide_eq_true_iff] at c
    rw [if_neg (by rintro (q | q); · rw [c.1] at q; cases q
                   · omega)]
    cases hb with
    | none => exact .some hk
    | @some y u hy =>
      show ORel z (if x.l.length < y.l.length then _ else _) (if s.lines.length < u.lines.length then _ else _)
      rw [len, hy.2.2.2.1.length_eq]
      split
      · exact .some hk
      · exact .some hy
  · rw [if_neg c]
    rw [if_pos]
    · exact hb
    · rw [Bool.and_eq_true, decide_eq_true_iff] at c
      by_cases c1 : canFrom M.n s.g g = true
      · exact .inr (by
          by_cases c2 : Vamvsc.age z s ≤ a
          · exact absurd ⟨c1, c2⟩ c
          · omega)
      · exact .inl (Bool.eq_false_iff.mpr c1)
theorem Rel.touch (r : Rel M z) {x : KI} {s : SStore} (k : KRel z x s) (g : Nat) : touchL M.n g (M.chs.drop x.made) = (Vamvsc.touched (width z.t) g (Vamvsc.since z s)).length := by
  unfold touchL keysL Vamvsc.touched Vamvsc.since
  rw [r.chs, k.2.1, r.wt, ← List.map_drop, List.map_map]
  rfl
theorem Rel.source (r : Rel M z) {x : KI} {s : SStore} (k : KRel z x s) (hx : x.made ≤ M.chs.length) : ORel z (cheapM M x).1 (Vamvsc.source z s).1 ∧ (cheapM M x).2 = (Vamvsc.source z s).2 := by
  unfold cheapM Vamvsc.source
  have hf : Paired (KRel z) (M.kept.filter fun y => y.g != x.g && (canFrom M.n y.g x.g && decide (ageM M y = ageM M x))) (z.kept.filter fun u => u.g != s.g && (u.at_ == s.at_ && canFrom (width z.t) u.g s.g)) := by
    refine pr_filter r.kept fun y u hu => ?_
    rw [r.wt, hu.1, k.1]
    have e : decide (ageM M y = ageM M x) = (u.at_ == s.at_) := by
      unfold ageM
      rw [r.chl, hu.2.1, k.2.1]
      have h1 := hu.2.2.1
      have h2 := k.2.2.1
      by_cases c : u.at_ = s.at_
      · rw [c, beq_self_eq_true]
        exact decide_eq_true rfl
      · rw [show (u.at_ == s.at_) = false from beq_eq_false_iff_ne.mpr c]
        exact decide_eq_false fun q => c (by omega)
    rw [e, Bool.and_comm (canFrom M.n u.g s.g)]
  refine pr_foldl (S := fun (b : Option KI × Nat) (b' : Option SStore × Nat) => ORel z b.1 b'.1 ∧ b.2 = b'.2) hf (fun b b' y u hb hu => ?_) ⟨.none, ?_⟩
  · have e := r.touch k u.g
    rw [hu.1, e]
    obtain ⟨T, hT⟩ : ∃ T : Nat, T = (Vamvsc.touched (width z.t) u.g (Vamvsc.since z s)).length := ⟨_, rfl⟩
    rw [← hT, hb.2]
    show ORel z (if T < b'.2 then (some y, T) else b).1 (if T < b'.2 then (some u, T) else b').1 ∧ (if T < b'.2 then (some y, T) else b).2 = (if T < b'.2 then (some u, T) else b').2
    by_cases c : T < b'.2
    · rw [if_pos c, if_pos c]
      exact ⟨.some hu, rfl⟩
    · rw [if_neg c, if_neg c]
      exact hb
  · show (M.chs.drop x.made).length = (z.log.drop s.at_).length
    rw [List.length_drop, List.length_drop, r.chl, k.2.1]
end
end KR
end
section
set_option maxRecDepth 100000
set_option maxHeartbeats 4000000
/-! tables: want, Desk_init, load, want_groupings, counts, keep. -/
namespace KR
open PySem PySem.Spec PyProof.Rows L2
open Vamvsa (Group columnsOf canFrom groupsOf width)
open Vamvsc (Held Change done replay)
def RefW (A : Ads) (k : Int) (H : Hp) (E : XK) : Prop := ExWish A A.c_Refused (refusedF k) H E
abbrev DSt := Option (SA × Mz)
def DkAt (A : Ads) (D dD : Addr) : DSt → Hp → Prop
  | none, H => H D = some (.ins A.c_Desk dD [("store", .non)])
  | some (q, M), H => H D = some (.ins A.c_Desk dD [("store", .ref q.S)]) ∧ St A q M H
def foot (D : Addr) : DSt → List Addr
  | none => [D]
  | some (q, _) => [D, q.S, q.HL, q.CL, q.KD]
def Fr (U : List Addr) (H H' : Hp) : Prop := ∀ b o, H b = some o → b ∉ U → H' b = some o
inductive RelO : DSt → Option Held → Prop
  | none : RelO none none
  | some {q : SA} {M : Mz} {z : Held} : Rel M z → RelO (some (q, M)) (some z)
def XIs (X : Addr) : DSt → Prop
  | none => True
  | some (q, _) => q.X = X
structure Due (A : Ads) (D dD : Addr) (w : DSt) (o : Option Held) (res : Option Held × VamvsBase.Answer) (H : Hp) (Q : VK) (E : XK) : Prop where
  ref : ∀ k : Int, res = (o, VamvsBase.one k) → RefW A k H E
  ok : ∀ H' w' p, (∃ Hl, Fr (foot D w) H Hl ∧ Hl p = none) → (∀ X, XIs X w → XIs X w') → DkAt A D dD w' H' → RelO w' res.1 → Fr (foot D w) H H' → (∀ b ∈ foot D w', b ∈ foot D w ∨ H b = none) → H' p = some (.lst ((VamvscNeutral.encode res.2).map V.int)) → Q (.ref p) H'
def sp_want (A : Ads) : Sp := fun vs H Q E => ∃ (b : Bool) (k : Int), vs = [.bl b, .int k] ∧ (b = true → Q .non H) ∧ (b = false → RefW A k H E)
def sp_Desk_init (A : Ads) : Sp := fun vs H Q _ => ∃ (a d : Addr), vs = [.ref a] ∧ H a = some (.ins A.c_Desk d []) ∧ ∀ H', (∀ b o, H b = some o → b ≠ a → H' b = some o) → H' a = some (.ins A.c_Desk d [("store", .non)]) → Q .non H'
def DueX (A : Ads) (D dD X : Addr) (w : DSt) (res : Option Held × VamvsBase.Answer) (H : Hp) (Q : VK) : Prop :=
  ∀ H' w' p, (∃ Hl, Fr (foot D w) H Hl ∧ Hl p = none) → XIs X w' → DkAt A D dD w' H' → RelO w' res.1 → Fr (foot D w) H H' → (∀ b ∈ foot D w', b ∈ foot D w ∨ H b = none) → H' p = some (.lst ((VamvscNeutral.encode res.2).map V.int)) → Q (.ref p) H'
def sp_load (A : Ads) : Sp := fun vs H Q E => ∃ (D dD tx X : Addr) (w : DSt) (o : Option Held) (l : List UInt8) (xs : List V), H X = some (.lst xs) ∧ XIs X w ∧ vs = [.ref D, .ref tx] ∧ DkAt A D dD w H ∧ RelO w o ∧ H tx = some (.lst (l.map byV)) ∧ DueX A D dD X w (Vamvsc.step o (.load l)) H Q
def sp_want_groupings (A : Ads) : Sp := fun vs H Q E => ∃ (D dD gl : Addr) (q : SA) (M : Mz) (ns : List Int), vs = [.ref D, .ref gl] ∧ DkAt A D dD (some (q, M)) H ∧ H gl = some (.lst (ns.map V.int)) ∧ ns.length ≤ 4000 ∧
  ((∀ i ∈ ns, 0 ≤ i ∧ i < ((2 ^ M.n : Nat) : Int)) → ∀ H', Same H H' → Q .non H') ∧ ((∃ i ∈ ns, ¬ (0 ≤ i ∧ i < ((2 ^ M.n : Nat) : Int))) → RefW A (-2) H E)
def sp_counts (A : Ads) : Sp := fun vs H Q _ => ∃ (D dD : Addr) (q : SA) (M : Mz), vs = [.ref D] ∧ DkAt A D dD (some (q, M)) H ∧ ∀ H' p, Same H H' → H p = none → H' p = some (.lst [.int 1, .int ((nowM M).length : Nat), .int (M.chs.length : Nat)]) → Q (.ref p) H'
section
variable {A : Ads} {D dD : Addr}
theorem DkAt.mono {w : DSt} {H H' : Hp} (e : Same H H') (h : DkAt A D dD w H) : DkAt A D dD w H' := by
  cases w with
  | none => exact e _ _ h
  | some p => exact ⟨e _ _ h.1, h.2.mono e⟩
theorem DkAt.desk {w : DSt} {H : Hp} (h : DkAt A D dD w H) : ∃ fs, H D = some (.ins A.c_Desk dD fs) ∧ ∃ v : V, fs = ([("store", v)] : List (Str × V)) := by
  cases w with
  | none => exact ⟨_, h, _, rfl⟩
  | some p => exact ⟨_, h.1, _, rfl⟩
theorem Fr.of {U : List Addr} {H H' : Hp} (e : Same H H') : Fr U H H' := fun b o hb _ => e b o hb
theorem RefW.mono {k : Int} {H H' : Hp} {E : XK} (h : RefW A k H E) (e : Same H H') : RefW A k H' E := ExWish.mono h e
theorem desk_ne {q : SA} {M : Mz} {H : Hp} (h : DkAt A D dD (some (q, M)) H) : D ≠ q.S := fun z => by
  have h1 := h.1
  rw [z, h.2.self] at h1
  have t3 := Option.some.inj h1
  injection t3 with e1 e2 e3
  injection e3 with e4 e5
  injection e4 with e6 e7
  exact absurd e6 (by decide)
/-- the store's change, seen from the desk -/
theorem DkAt.fq {q q' : SA} {M M' : Mz} {H H' : Hp} (h : DkAt A D dD (some (q, M)) H) (e : q'.S = q.S) (s : St A q' M' H') (f : Fq q H H') : DkAt A D dD (some (q', M')) H' ∧ Fr (foot D (some (q, M))) H H' := by
  obtain ⟨hs, h1, -, -⟩ := h.2.hist
  obtain ⟨cs, h2, -⟩ := h.2.chs
  obtain ⟨kvs, h3, -⟩ := h.2.kept
  refine ⟨⟨?_, s⟩, fun b o hb hn => ?_⟩
  · rw [e]
    exact f _ _ h.1 (desk_ne h) (ne_of h.1 h1 fun z => nomatch z) (ne_of h.1 h2 fun z => nomatch z) (ne_of h.1 h3 fun z => nomatch z)
  · have hn2 : b ∉ [D, q.S, q.HL, q.CL, q.KD] := hn
    simp only [List.mem_cons, List.not_mem_nil, or_false, not_or] at hn2
    exact f b o hb hn2.2.1 hn2.2.2.1 hn2.2.2.2.1 hn2.2.2.2.2
end
section
variable {P : Program} {w : World} {K : PySem.W.Frag} {mg : Str → Option Value} {base : Heap} {A : Ads}
theorem ok_want (T : Txt K mg A) : Ok P w K mg base (L2.CX P w) 3 A.f_want P_want (sp_want A) := by
  obtain ⟨fd, F, b⟩ := T.F_want
  obtain ⟨fd_Refused_init, b_Refused_init, G_Refused_init⟩ := ok_Refused_init (P := P) (w := w) (base := base) T
  refine ⟨fd, b, F.okX sc_want (fun vs H Q E h => by
    obtain ⟨b, k, rfl, _⟩ := h
    rfl) (fun cdv Ar outer s H vs Q E hr h => ?_)⟩
  refine ⟨_, (pss_one (ps_if (pt_not (pt_val (pv 0))) (pss_one (ps_raise rfl (takes_of rfl rfl rfl rfl) (pmk_oex T.oex_Refused T.i_Refused T.t_Refused G_Refused_init (hr.mono (by decide)) b_Refused_init .nil pass0 rfl T.g_Refused (pa_cons (pv 1) pa_nil)))) pss_nil)), ?_⟩
  obtain ⟨b, k, rfl, kt, kf⟩ := h
  refine ⟨_, rfl, b, rfl, ?_⟩
  cases b with
  | true => exact iteF' rfl (kt rfl)
  | false =>
    refine iteT' rfl ?_
    refine ⟨_, rfl, (by show 1 ≤ 1000; decide), fun a1 ha1 => ⟨a1, k, rfl, upd_same, fun H' d2 m2 => ?_⟩⟩
    obtain ⟨m1, m2, m3, m4⟩ := raise_of (A := A) (kf rfl) ha1 m2
    exact ⟨rfl, d2, _, m1, m2, m3, m4⟩
theorem ok_Desk_init (T : Txt K mg A) : Ok P w K mg base CX0 1 A.f_Desk_init P_Desk_init (sp_Desk_init A) := by
  obtain ⟨fd, F, b⟩ := T.F_Desk_init
  refine ⟨fd, b, F.ok sc_Desk_init (fun vs H Q E h => by
    obtain ⟨a, d, rfl, _⟩ := h
    rfl) (fun cdv Ar outer s H vs Q E hr h => ?_)⟩
  refine ⟨_, (pss_one (ps_fld (pv 0) pe_non rfl)), ?_⟩
  obtain ⟨a, d, rfl, ha, k⟩ := h
  refine ⟨_, rfl, a, _, _, _, rfl, ha, T.cl_Desk, T.na_Desk_store, (by show 0 < 1000; decide), ?_⟩
  refine k _ (fun b o hb nb => ?_) upd_same
  rw [upd_ne nb]
  exact hb
theorem ok_Desk_counts (T : Txt K mg A) : Ok P w K mg base CX0 2 A.f_Desk_counts P_Desk_counts (sp_counts A) := by
  obtain ⟨fd, F, b⟩ := T.F_Desk_counts
  obtain ⟨fd_Store_rows_now, b_Store_rows_now, G_Store_rows_now⟩ := ok_Store_rows_now (P := P) (w := w) (base := base) T
  refine ⟨fd, b, F.ok sc_Desk_counts (fun vs H Q E h => by
    obtain ⟨D, dD, q, M, rfl, _⟩ := h
    rfl) (fun cdv Ar outer s H vs Q E hr h => ?_)⟩
  refine ⟨_, (pss_one (ps_ret (pe_lst (pa_cons pe_int (pa_cons (pe_callB call_len_seq (by rfl) T.n_len (by decide +kernel) (pa_cons (pe_meth0 (pe_fld (pv 0) rfl) T.cl_Store T.m_Store_rows_now G_Store_rows_now (hr.mono (by decide)) b_Store_rows_now .nil pass0) pa_nil)) (pa_cons (pe_callB call_len_seq (by rfl) T.n_len (by decide +kernel) (pa_cons (pe_fld (pe_fld (pv 0) rfl) rfl) pa_nil)) pa_nil)))))), ?_⟩
  obtain ⟨D, dD, q, M, rfl, d, k⟩ := h
  refine ⟨_, rfl, D, _, _, _, _, rfl, d.1, T.cl_Desk, T.na_Desk_store, rfl, q.S, _, _, rfl, d.2.self, rfl, q, M, rfl, d.2, fun h hh n1 n2 => ?_⟩
  obtain ⟨as, h1, h2⟩ := hh
  obtain ⟨cs, c1, c2⟩ := d.2.chs
  refine ⟨h, _, rfl, .inl (SqL.of h1), ?_⟩
  refine ⟨_, rfl, D, _, _, _, _, rfl, d.1, T.cl_Desk, T.na_Desk_store, rfl, q.S, _, _, _, _, rfl, d.2.self, T.cl_Store, T.na_Store_changes, rfl, q.CL, _, rfl, .inl (SqL.of c1), (by show 3 ≤ sizeLine; decide), fun p hp => ?_⟩
  refine k _ p (Same.new hp) hp ?_
  rw [upd_same, List.length_map, List.length_map, pr_len h2, pr_len c2]
theorem ok_Desk_want_groupings (T : Txt K mg A) : Ok P w K mg base (L2.CX P w) 4 A.f_Desk_want_groupings P_Desk_want_groupings (sp_want_groupings A) := by
  obtain ⟨fd, F, b⟩ := T.F_Desk_want_groupings
  obtain ⟨fd_Store_is_grouping, b_Store_is_grouping, G_Store_is_grouping⟩ := ok_Store_is_grouping (P := P) (w := w) (base := base) T
  obtain ⟨fd_want, b_want, G_want⟩ := ok_want (P := P) (w := w) (base := base) T
  refine ⟨fd, b, F.okX sc_Desk_want_groupings (fun vs H Q E h => by
    obtain ⟨D, dD, gl, q, M, ns, rfl, _⟩ := h
    rfl) (fun cdv Ar outer s H vs Q E hr h => ?_)⟩
  refine ⟨_, (pss_one (ps_expr (pe_call G_want (hr.mono (by decide)) rfl T.g_want T.k_want b_want .nil (passes_call (takes_of rfl rfl rfl rfl) (fun _ _ _ _ h => h)) (pa_cons (pe_callB (cr_all rfl) (by rfl) T.n_all (by decide +kernel) (pa_cons (pe_lc (own := [("number", 2)]) rfl sc_Desk_want_groupings.nd (pi_list (pv 1)) (blkOk_by (own := [("number", 2)]) (N := N_Desk_want_groupings) (sc := defScope s_Desk_want_groupings) (by decide +kernel)) (fun _ _ _ _ _ => (pg_name (i := 2) sc_Desk_want_groupings.nd rfl (by first | exact Or.inl rfl | exact Or.inr rfl))) (fun _ _ _ _ _ => pts_nil) (fun _ _ _ _ _ => (pe_meth (pe_fldK (K := K) (pv 0) rfl) T.cl_Store T.m_Store_is_grouping G_Store_is_grouping (hr.mono (by decide)) b_Store_is_grouping .nil pass0 (pa_cons (pv 2) pa_nil)))) pa_nil)) (pa_cons (pe_cI T.c_NO_GROUPING) pa_nil))))), ?_⟩
  obtain ⟨D, dD, gl, q, M, ns, rfl, d, hgl, l4, kt, kf⟩ := h
  refine ⟨_, rfl, gl, rfl, ⟨_, SqL.of hgl⟩, fun R hR => ?_⟩
  refine lc_list (K := K) (a := gl) (xs := ns.map V.int) (fun i H' => Same H H' ∧ H' R = some (.lst (((ns.take i).map fun i => decide (0 ≤ i ∧ i < ((2 ^ M.n : Nat) : Int))).map V.bl))) ⟨Same.new hR, upd_same⟩ (fun i H' _ h => SqL.of (h.1 _ _ hgl)) ?_ ?_
  · rintro i x H' hi ⟨e, hR'⟩
    obtain ⟨n, hn, rfl⟩ := map_at hi
    have d' := DkAt.mono e d
    have ilt : i < ns.length := (List.getElem?_eq_some_iff.mp hn).1
    refine ⟨rfl, ?_⟩
    refine yes_of (iteT ?_)
    refine ⟨_, rfl, D, _, _, _, _, rfl, d'.1, T.cl_Desk, T.na_Desk_store, rfl, q.S, _, _, rfl, d'.2.self, rfl, _, rfl, q, M, n, rfl, d'.2, ?_⟩
    refine ⟨_, hR', sz_lt (by rw [List.length_map, List.length_map, List.length_take]; omega), Same.mut e hR, ?_⟩
    rw [upd_same, take_snoc hn, List.map_append, List.map_append]
    rfl
  rintro H1 ⟨e1, hR1⟩
  rw [List.length_map, List.take_length] at hR1
  refine ⟨R, _, rfl, SqL.of hR1, ?_⟩
  refine ⟨_, -2, rfl, fun hb => ?_, fun hb => ?_⟩
  · refine kt (fun i hi => ?_) H1 e1
    have := List.all_eq_true.mp hb (decide (0 ≤ i ∧ i < ((2 ^ M.n : Nat) : Int))) (List.mem_map.mpr ⟨i, hi, rfl⟩)
    exact of_decide_eq_true this
  · refine RefW.mono (kf ?_) e1
    rw [List.all_eq_false] at hb
    obtain ⟨b, hb1, hb2⟩ := hb
    obtain ⟨i, hi, rfl⟩ := List.mem_map.mp hb1
    exact ⟨i, hi, fun z => hb2 (decide_eq_true z)⟩
end
end KR
end
section
set_option maxRecDepth 100000
set_option maxHeartbeats 4000000
/-! tables: load, keep. -/
namespace KR
open PySem PySem.Spec PyProof.Rows L2
open Vamvsa (Group columnsOf canFrom groupsOf width)
open Vamvsc (Held Change done replay)
theorem step_ok {o : Option Held} {l : List UInt8} {t : Vamvsa.Table} (h : Vamvsa.read l = .ok t) : Vamvsc.step o (.load l) = (some (Vamvsc.start_ t), ⟨1, Vamvsc.nats [width t, t.rows.length, t.asks.length]⟩) := by
  cases o <;> (show (match Vamvsa.read l with
    | .ok t => (some (Vamvsc.start_ t), (⟨1, Vamvsc.nats [width t, t.rows.length, t.asks.length]⟩ : VamvsBase.Answer))
    | .error f => (_, VamvsBase.faulty f)) = _; rw [h])
theorem step_err {o : Option Held} {l : List UInt8} {f : VamvsBase.Fault} (h : Vamvsa.read l = .error f) : Vamvsc.step o (.load l) = (o, VamvsBase.faulty f) := by
  cases o <;> (show (match Vamvsa.read l with
    | .ok t => (some (Vamvsc.start_ t), (⟨1, Vamvsc.nats [width t, t.rows.length, t.asks.length]⟩ : VamvsBase.Answer))
    | .error f => (_, VamvsBase.faulty f)) = _; rw [h])
theorem foot_self {D : Addr} (w : DSt) : D ∈ foot D w := by
  cases w with
  | none => exact List.mem_singleton.mpr rfl
  | some p => exact List.mem_cons_self
theorem index_none {i : Int} {n : Nat} : (VamvsBase.index i n).isNone = !decide (0 ≤ i ∧ i < (n : Int)) := by
  unfold VamvsBase.index
  by_cases c : 0 ≤ i ∧ i < (n : Int)
  · rw [if_pos c, decide_eq_true c]
    rfl
  · rw [if_neg c, decide_eq_false c]
    rfl
theorem keep_bad {z : Held} {n : Nat} (hw : width z.t = n) {ns : List Int} (h : ∃ i ∈ ns, ¬ (0 ≤ i ∧ i < ((2 ^ n : Nat) : Int))) : Vamvsc.step (some z) (.keep ns) = (some z, VamvsBase.one (-2)) := by
  have : ns.any (fun g => (VamvsBase.index g (2 ^ width z.t)).isNone) = true := by
    obtain ⟨i, hi, hb⟩ := h
    refine List.any_eq_true.mpr ⟨i, hi, ?_⟩
    rw [index_none, hw, decide_eq_false hb]
    rfl
  exact if_pos this
theorem keep_good {M : Mz} {z : Held} (r : Rel M z) {ns : List Int} {gs : List Nat} (h : ∀ i ∈ ns, 0 ≤ i ∧ i < ((2 ^ M.n : Nat) : Int)) (hs : gs.Pairwise (· < ·)) (hm : ∀ g : Nat, g ∈ gs ↔ (g : Int) ∈ ns) :
    Vamvsc.step (some z) (.keep ns) = (some { z with kept := keptS z gs }, ⟨1, Vamvsc.nats [(keptS z gs).length, ((keptS z gs).map fun s => s.lines.length).sum]⟩) := by
  have e : ¬ ns.any (fun g => (VamvsBase.index g (2 ^ width z.t)).isNone) = true := by
    intro q
    obtain ⟨i, hi, hb⟩ := List.any_eq_true.mp q
    rw [index_none, r.wt, decide_eq_true (h i hi)] at hb
    cases hb
  have eg := keep_gs r hs hm h
  show (if ns.any (fun g => (VamvsBase.index g (2 ^ width z.t)).isNone) = true then _ else _) = _
  rw [if_neg e]
  show (some { z with kept := keptS z ((Vamvsa.groupings z.t).filter fun (g : Nat) => ns.contains (g : Int)) }, _) = _
  rw [← eg]
  rfl
def sp_dkeep (A : Ads) : Sp := fun vs H Q E => ∃ (D dD gl : Addr) (q : SA) (M : Mz) (z : Held) (ns : List Int), vs = [.ref D, .ref gl] ∧ DkAt A D dD (some (q, M)) H ∧ Rel M z ∧ H gl = some (.lst (ns.map V.int)) ∧ ns.length ≤ 4000 ∧
  Due A D dD (some (q, M)) (some z) (Vamvsc.step (some z) (.keep ns)) H Q E
section
variable {P : Program} {w : World} {K : PySem.W.Frag} {mg : Str → Option Value} {base : Heap} {A : Ads}
theorem ok_Desk_load (T : Txt K mg A) : Ok P w K mg base CX0 10 A.f_Desk_load P_Desk_load (sp_load A) := by
  obtain ⟨fd, F, b⟩ := T.F_Desk_load
  obtain ⟨fd_Store_init, b_Store_init, G_Store_init⟩ := ok_Store_init (P := P) (w := w) (base := base) T
  obtain ⟨fd_read_table, b_read_table, G_read_table⟩ := ok_read_table (P := P) (w := w) (base := base) T
  refine ⟨fd, b, F.ok sc_Desk_load (fun vs H Q E h => by
    obtain ⟨D, dD, tx, X, w', o, l, xs, _, _, rfl, _⟩ := h
    rfl) (fun cdv Ar outer s H vs Q E hr h => ?_)⟩
  refine ⟨_, (pss_cons (ps_try_as (i := 2) (Wout := fun _ _ _ _ => False) rfl rfl sc_Desk_load.nd rfl rfl ⟨rfl, by decide, .inl T.g_Fault⟩ takes0
      (fun W pn xe tk _ => (pss_one (ps_set (i := 3) sc_Desk_load.nd rfl (by first | exact Or.inl rfl | exact Or.inr rfl) (pe_callS G_read_table (hr.mono (by decide)) rfl T.g_read_table T.k_read_table b_read_table (fun σ => passAt tk σ) (by exact (pa_cons (pv 1) pa_nil))))))
      (fun a oe cls d pn hz hf => (pss_one (ps_ret (pe_lst (pa_cons pe_int (pa_cons (pe_xf T.xf_Fault T.xn_Fault_code hz hf (pv 2)) (pa_cons (pe_xf T.xf_Fault T.xn_Fault_place hz hf (pv 2)) pa_nil))))))))
    (pss_cons (ps_fld (pv 0) (pe_make T.mk_Store G_Store_init (hr.mono (by decide)) rfl T.g_Store b_Store_init .nil pass0 (pa_cons (pe_callB call_len_seq (by rfl) T.n_len (by decide +kernel) (pa_cons (pe_fld (pv 3) rfl) pa_nil)) (pa_cons (pe_fld (pv 3) rfl) pa_nil))) rfl)
    (pss_one (ps_ret (pe_lst (pa_cons pe_int (pa_cons (pe_callB call_len_seq (by rfl) T.n_len (by decide +kernel) (pa_cons (pe_fld (pv 3) rfl) pa_nil)) (pa_cons (pe_callB call_len_seq (by rfl) T.n_len (by decide +kernel) (pa_cons (pe_fld (pv 3) rfl) pa_nil)) (pa_cons (pe_callB call_len_seq (by rfl) T.n_len (by decide +kernel) (pa_cons (pe_fld (pv 3) rfl) pa_nil)) pa_nil))))))))), ?_⟩
  obtain ⟨D, dD, tx, X, w', o, l, xs, hX, xis, rfl, d, ro, ht, due⟩ := h
  refine ⟨_, rfl, tx, l, rfl, ht, fun f hf => ?_, fun t htt ok H1 tp e1 htp => ?_⟩
  · refine fun H' dx e hdx => ⟨true, T.te_Fault, fun _ a ha => ?_, fun z => by cases z⟩
    refine ⟨_, rfl, rfl, rfl, dx, _, _, rfl, hdx, rfl, ?_⟩
    refine ⟨_, rfl, rfl, rfl, dx, _, _, rfl, hdx, rfl, (by show 3 ≤ sizeLine; decide), fun p hp => ?_⟩
    have st := step_err (o := o) hf
    have due' := due
    rw [st] at due'
    refine due' _ w' p ⟨_, Fr.of e, hp⟩ xis (DkAt.mono (e.trans (Same.new hp)) d) ro (Fr.of (e.trans (Same.new hp))) (fun b hb => .inl hb) ?_
    exact upd_same
  · obtain ⟨dT, c, r, q0, qs, t1, t2, ⟨as, t3, t4⟩, t5, t6⟩ := htp
    obtain ⟨ok1, ok2, ok3, ok4⟩ := ok
    obtain ⟨fs, hD, v0, hfs⟩ := d.desk
    subst hfs
    refine ⟨_, rfl, tp, _, _, _, _, rfl, t1, T.cl_Table, T.na_Table_columns, rfl, c, _, rfl, .inl (SqL.of t2), ?_⟩
    refine ⟨_, rfl, tp, _, _, _, _, rfl, t1, T.cl_Table, T.na_Table_rows, rfl, ?_⟩
    refine fun x dx hx hdx nx => ?_
    have e2 : Same H1 (upd (upd H1 dx (.own x)) x (.ins A.c_Store dx [])) := (Same.new hdx).trans (Same.new (by rw [upd_ne (Ne.symm nx)]; exact hx))
    rw [List.length_map]
    refine ⟨x, dx, r, X, t.cols.length, t.rows, xs, e2 _ _ (e1 _ _ hX), rfl, upd_same, ⟨as, e2 _ _ t3, pr_imp t4 fun _ _ => RowAt.mono e2⟩, ok1, ok2, ok4, fun H3 q hq hqX s3 f3 g1 g2 g3 => ⟨rfl, ?_⟩⟩
    have e3 : Same H1 H3 := fun b o hb => f3 b o (e2 b o hb) (ne_of_none hb hx)
    have n2 : ∀ b, upd (upd H1 dx (.own x)) x (.ins A.c_Store dx []) b = none → H1 b = none := fun b hb => by
      cases y : H1 b with
      | none => rfl
      | some o => rw [e2 _ _ y] at hb; cases hb
    have hD3 := e3 _ _ (e1 _ _ hD)
    refine ⟨_, rfl, D, _, _, _, rfl, hD3, T.cl_Desk, T.na_Desk_store, (by show 1 < 1000; decide), ?_⟩
    obtain ⟨H4, eH4⟩ : ∃ H4, H4 = upd H3 D (.ins A.c_Desk dD (putF "store" (.ref x) [("store", v0)])) := ⟨_, rfl⟩
    have f4 : ∀ b o, H3 b = some o → b ≠ D → H4 b = some o := fun b o hb nb => by rw [eH4, upd_ne nb]; exact hb
    have hD4 : H4 D = some (.ins A.c_Desk dD [("store", .ref x)]) := by rw [eH4]; exact upd_same
    have nins : ∀ b o, H3 b = some o → (∀ C dx fs, o ≠ .ins C dx fs) → b ≠ D := fun b o hb hn z => by
      rw [z, hD3] at hb
      exact hn _ _ _ (Option.some.inj hb).symm
    have nD : ∀ b C dx fs, H3 b = some (.ins C dx fs) → (∀ v, fs ≠ ([("store", v)] : List (Str × V))) → b ≠ D := fun b C dx fs hb hn z => by
      rw [z, hD3] at hb
      have := Option.some.inj hb
      injection this with i1 i2 i3
      exact hn _ i3.symm
    rw [← eH4]
    clear eH4
    have t1' := f4 _ _ (e3 _ _ t1) (nD _ _ _ _ (e3 _ _ t1) fun v z => by cases z)
    have t2' := f4 _ _ (e3 _ _ t2) (nins _ _ (e3 _ _ t2) fun _ _ _ z => nomatch z)
    have t3' := f4 _ _ (e3 _ _ t3) (nins _ _ (e3 _ _ t3) fun _ _ _ z => nomatch z)
    have t5' := f4 _ _ (e3 _ _ t5) (nins _ _ (e3 _ _ t5) fun _ _ _ z => nomatch z)
    refine ⟨_, rfl, tp, _, _, _, _, rfl, t1', T.cl_Table, T.na_Table_columns, rfl, c, _, rfl, .inl (SqL.of t2'), ?_⟩
    refine ⟨_, rfl, tp, _, _, _, _, rfl, t1', T.cl_Table, T.na_Table_rows, rfl, r, _, rfl, .inl (SqL.of t3'), ?_⟩
    refine ⟨_, rfl, tp, _, _, _, _, rfl, t1', T.cl_Table, T.na_Table_questions, rfl, q0, _, rfl, .inl (SqL.of t5'), (by show 4 ≤ sizeLine; decide), fun p hp => ?_⟩
    have st := step_ok (o := o) htt
    have due' := due
    rw [st] at due'
    -- the new store, with the desk's change
    have s4 : St A q ⟨t.cols.length, [t.rows], [], []⟩ H4 := by
      have mv : ∀ b o, H3 b = some o → (∀ C dx fs, o ≠ .ins C dx fs) → H4 b = some o := fun b o hb hn => f4 b o hb (nins b o hb hn)
      have mrow : ∀ a x, RowAt H3 a x → RowAt H4 a x := fun a x ⟨u, u1, u2⟩ => ⟨u, mv _ _ u1 fun _ _ _ z => (nomatch z), mv _ _ u2 fun _ _ _ z => (nomatch z)⟩
      obtain ⟨k1, ⟨hs, k2, k3, k4⟩, ⟨cs, k5, k6⟩, ⟨kvs, k7, k8⟩, k9, k10, ⟨ys, k11⟩, k12⟩ := s3
      refine ⟨f4 _ _ k1 (nD _ _ _ _ k1 fun v z => by cases z), ⟨hs, mv _ _ k2 fun _ _ _ z => (nomatch z), pr_imp k3 fun _ _ ⟨a2, r1, r2⟩ => ⟨a2, mv _ _ r1 fun _ _ _ z => (nomatch z), pr_imp r2 mrow⟩, k4⟩, ⟨cs, mv _ _ k5 fun _ _ _ z => (nomatch z), ?_⟩, ⟨kvs, mv _ _ k7 fun _ _ _ z => (nomatch z), ?_⟩, k9, k10, ⟨ys, mv _ _ k11 fun _ _ _ z => (nomatch z)⟩, k12⟩
      · cases k6
        exact .nil
      · cases k8
        exact .nil
    have e5 := Same.new (o := .lst [V.int 1, V.int ((t.cols.map nmV).length : Nat), V.int ((as.map V.ref).length : Nat), V.int (qs.length : Nat)]) hp
    refine due' _ (some (q, ⟨t.cols.length, [t.rows], [], []⟩)) p ⟨H4, fun b o hb hn => f4 _ _ (e3 _ _ (e1 _ _ hb)) (fun z => hn (by rw [z]; exact foot_self w')), hp⟩ hqX ⟨?_, s4.mono e5⟩ (.some (Rel.load t)) (fun b o hb hn => ?_) (fun b hb => ?_) ?_
    · rw [hq]
      exact e5 _ _ hD4
    · have nb : b ≠ D := fun z => hn (by rw [z]; exact foot_self w')
      exact e5 _ _ (f4 _ _ (e3 _ _ (e1 _ _ hb)) nb)
    · have hb2 : b ∈ [D, q.S, q.HL, q.CL, q.KD] := hb
      simp only [List.mem_cons, List.not_mem_nil, or_false] at hb2
      rcases hb2 with z | z | z | z | z
      · rw [z]
        exact .inl (foot_self w')
      · rw [z, hq]
        exact .inr (e1.free hx)
      · rw [z]
        exact .inr (e1.free (n2 _ g1))
      · rw [z]
        exact .inr (e1.free (n2 _ g2))
      · rw [z]
        exact .inr (e1.free (n2 _ g3))
    · rw [upd_same, List.length_map, List.length_map, pr_len t4, t6]
      rfl
theorem ok_Desk_keep (T : Txt K mg A) : Ok P w K mg base (L2.CX P w) 5 A.f_Desk_keep P_Desk_keep (sp_dkeep A) := by
  obtain ⟨fd, F, b⟩ := T.F_Desk_keep
  obtain ⟨fd_Desk_want_groupings, b_Desk_want_groupings, G_Desk_want_groupings⟩ := ok_Desk_want_groupings (P := P) (w := w) (base := base) T
  obtain ⟨fd_Store_keep, b_Store_keep, G_Store_keep⟩ := ok_Store_keep (P := P) (w := w) (base := base) T
  obtain ⟨fd_Store_lines, b_Store_lines, G_Store_lines⟩ := ok_Store_lines (P := P) (w := w) (base := base) T
  refine ⟨fd, b, F.okX sc_Desk_keep (fun vs H Q E h => by
    obtain ⟨D, dD, gl, q, M, z, ns, rfl, _⟩ := h
    rfl) (fun cdv Ar outer s H vs Q E hr h => ?_)⟩
  refine ⟨_, (pss_cons (ps_expr (pe_meth (pv 0) T.cl_Desk T.m_Desk_want_groupings G_Desk_want_groupings (hr.mono (by decide)) b_Desk_want_groupings .nil (passes_call (takes_of rfl rfl rfl rfl) (fun _ _ _ _ h => h)) (pa_cons (pv 1) pa_nil)))
    (pss_cons (ps_expr (pe_meth (pe_fld (pv 0) rfl) T.cl_Store T.m_Store_keep G_Store_keep (hr.mono (by decide)) b_Store_keep .nil pass0 (pa_cons (pv 1) pa_nil)))
    (pss_one (ps_ret (pe_lst (pa_cons pe_int (pa_cons (pe_callB call_lenD (by rfl) T.n_len (by decide +kernel) (pa_cons (pe_fld (pe_fld (pv 0) rfl) rfl) pa_nil)) (pa_cons (pe_callB (cr_sum rfl) (by rfl) T.n_sum (by decide +kernel) (pa_cons (pe_lock (pe_lc (own := [("one", 2)]) rfl sc_Desk_keep.nd (pi_keys (pe_fld (pe_fld (pv 0) rfl) rfl)) (blkOk_by (own := [("one", 2)]) (N := N_Desk_keep) (sc := defScope s_Desk_keep) (by decide +kernel)) (fun _ _ _ _ _ => (pg_name (i := 2) sc_Desk_keep.nd rfl (by first | exact Or.inl rfl | exact Or.inr rfl))) (fun _ _ _ _ _ => pts_nil) (fun _ _ _ _ _ => (pe_meth (pe_fldK (K := K) (pv 0) rfl) T.cl_Store T.m_Store_lines G_Store_lines (hr.mono (by decide)) b_Store_lines .nil pass0 (pa_cons (pv 2) pa_nil))))) pa_nil)) pa_nil)))))))), ?_⟩
  obtain ⟨D, dD, gl, q, M, z, ns, rfl, d, r, hgl, l4, due⟩ := h
  refine ⟨_, rfl, D, _, _, rfl, d.1, rfl, _, rfl, D, dD, gl, q, M, ns, rfl, d, hgl, l4, fun hall H1 e1 => ?_, fun hbad => due.ref (-2) (keep_bad r.wt hbad)⟩
  have d1 := DkAt.mono e1 d
  refine ⟨_, rfl, D, _, _, _, _, rfl, d1.1, T.cl_Desk, T.na_Desk_store, rfl, q.S, _, _, rfl, d1.2.self, rfl, _, rfl, q, M, gl, ns, rfl, d1.2, e1 _ _ hgl, l4, hall, fun H2 q' gs eS eH eC eX hs hm s2 f2 hkd => ?_⟩
  have hD2 : H2 D = some (.ins A.c_Desk dD [("store", .ref q'.S)]) := by rw [eS]; exact f2 _ _ d1.1 (desk_ne d1)
  have good := keep_good r hall hs hm
  have rel2 := r.keep gs
  have kl : ((keptS z gs).map fun s => s.lines.length) = (keepL M gs).map fun x => x.l.length := by
    have := rel2.kept
    have aux : ∀ {l : List KI} {m : List SStore}, Paired (KRel { z with kept := keptS z gs }) l m → (m.map fun s => s.lines.length) = l.map fun x => x.l.length := by
      intro l m h
      induction h with
      | nil => rfl
      | cons r t ih => rw [List.map_cons, List.map_cons, ih, r.2.2.2.1.length_eq]
    exact aux this
  have kl2 : (keptS z gs).length = (keepL M gs).length := by
    have := congrArg List.length kl
    rwa [List.length_map, List.length_map] at this
  rw [good] at due
  obtain ⟨kvs, hk1, hk2⟩ := s2.kept
  have k16 := s2.ok.k16
  have ekl := pr_len hk2
  refine ⟨_, rfl, D, _, _, _, _, rfl, hD2, T.cl_Desk, T.na_Desk_store, rfl, q'.S, _, _, _, _, rfl, s2.self, T.cl_Store, T.na_Store_kept, rfl, q'.KD, kvs, rfl, hk1, ?_⟩
  -- sum(lines(one) for one in kept), the dict of kept answers held still
  refine ⟨q'.KD, .dK kvs, hk1, True.intro, fun od => ?_⟩
  have keep3 : ∀ b o, H2 b = some o → b ≠ q'.KD → upd H2 q'.KD (.frz od (.dK kvs)) b = some o := fun b o hb nb => by rw [upd_ne nb]; exact hb
  have nk : ∀ b o, H2 b = some o → (∀ kk, o ≠ .dK kk) → b ≠ q'.KD := fun b o hb hn e => by
    rw [e, hk1] at hb
    exact hn _ (Option.some.inj hb).symm
  have hD3 := keep3 _ _ hD2 (nk _ _ hD2 fun _ z => nomatch z)
  have hS3 := keep3 _ _ s2.self (nk _ _ s2.self fun _ z => nomatch z)
  have hF3 : upd H2 q'.KD (.frz od (.dK kvs)) q'.KD = some (.frz od (.dK kvs)) := upd_same
  have hK3 : ∀ (i : Nat) (x : KI), (keepL M gs)[i]? = some x → LinesAt A (upd H2 q'.KD (.frz od (.dK kvs))) q'.S q'.KD x.g x.l := fun i x hx => by
    have fx := findK_of s2.ok (List.mem_of_getElem? hx)
    rcases kept_find hk2 x.g with ⟨z1, -⟩ | ⟨y, pp, z1, z2, z3, z4, a, dd, L, z5, z6, kv, z7, z8⟩
    · have : findK (keepL M gs) x.g = some x := fx
      rw [this] at z1; cases z1
    · have fx2 : findK (keepL M gs) x.g = some x := fx
      rw [fx2] at z1
      cases z1
      refine ⟨_, _, _, _, _, a, dd, L, hS3, .inl ⟨kvs, .inl (x.g : Int), .inr ⟨od, hF3⟩, rfl, ?_⟩, keep3 _ _ z6 (nk _ _ z6 fun _ z => nomatch z), kv, keep3 _ _ z7 (nk _ _ z7 fun _ z => nomatch z), pr_imp z8 fun _ _ ⟨g1, t, g2, g3⟩ => ⟨g1, t, g2, keep3 _ _ g3 (nk _ _ g3 fun _ z => nomatch z)⟩⟩
      rw [z3, z5]
  refine ⟨_, rfl, D, _, _, _, _, rfl, hD3, T.cl_Desk, T.na_Desk_store, rfl, q'.S, _, _, _, _, rfl, hS3, T.cl_Store, T.na_Store_kept, rfl, q'.KD, od, rfl, .inl ⟨kvs, hF3, fun R hR => ?_⟩⟩
  have hKD2R : R ≠ q'.KD := fun e => by rw [e, hF3] at hR; cases hR
  refine lc_it walk_keys (fun i H' => Same (upd H2 q'.KD (.frz od (.dK kvs))) H' ∧ H' R = some (.lst ((((keepL M gs).take i).map fun x => (x.l.length : Int)).map V.int))) ⟨Same.new hR, upd_same⟩ (fun i H' _ h => h.1 _ _ hF3) ?_ ?_
  · rintro i x H' H'' hi ⟨e, hR'⟩ ⟨rfl, kk, vv, hkv, rfl⟩
    obtain ⟨y, hy, hya⟩ := pr_at' hk2 hkv
    have hy2 : (keepL M gs)[i]? = some y := hy
    have ekk : kk = .inl (y.g : Int) := hya.1
    subst ekk
    have la := hK3 i y hy2
    refine ⟨rfl, ?_⟩
    refine yes_of (iteT ?_)
    refine ⟨_, rfl, D, _, _, _, _, rfl, e _ _ hD3, T.cl_Desk, T.na_Desk_store, rfl, q'.S, _, _, rfl, e _ _ hS3, rfl, _, rfl, q'.S, q'.KD, y.g, y.l, rfl, ?_, ?_⟩
    · obtain ⟨dS, v1, v2, v3, m, a, dd, L, g1, g2, g3, g4⟩ := la
      refine ⟨dS, v1, v2, v3, m, a, dd, L, e _ _ g1, ?_, e _ _ g3, g4.mono e⟩
      rcases g2 with ⟨kk, k1, h1, h2, h3⟩ | ⟨kk, k1, b, h1, h2, h3, h4⟩
      · refine .inl ⟨kk, k1, ?_, h2, h3⟩
        rcases h1 with h1 | ⟨o, h1⟩
        · exact .inl (e _ _ h1)
        · exact .inr ⟨o, e _ _ h1⟩
      · cases h2
    · refine ⟨_, hR', sz_lt (by
        rw [List.length_map, List.length_map, List.length_take]
        have : (keepL M gs).length ≤ 16 := k16
        omega), Same.mut e hR, ?_⟩
      rw [upd_same, take_snoc hy2, List.map_append, List.map_append]
      rfl
  rintro H4 ⟨e4, hR4⟩
  have hF4 := e4 _ _ hF3
  refine ⟨hF4, ?_⟩
  have ekl2 : kvs.length = (keepL M gs).length := ekl
  rw [ekl2, List.take_length] at hR4
  -- behind the walk
  have e5 : Same H2 (upd H4 q'.KD (.dK kvs)) := fun b o hb => by
    by_cases c : b = q'.KD
    · rw [c, hk1] at hb
      rw [c, upd_same]
      exact hb
    · rw [upd_ne c]
      exact e4 _ _ (keep3 _ _ hb c)
  have hR5 : upd H4 q'.KD (.dK kvs) R = some (.lst ((((keepL M gs)).map fun x => (x.l.length : Int)).map V.int)) := by
    rw [upd_ne hKD2R]
    exact hR4
  refine ⟨R, _, rfl, SqL.of hR5, (by show 3 ≤ sizeLine; decide), fun p hp => ?_⟩
  have e6 := e5.trans (Same.new (o := .lst [V.int 1, V.int (kvs.length : Nat), V.int (((keepL M gs).map fun x => (x.l.length : Int)).sum)]) hp)
  refine due.ok _ (some (q', { M with kept := keepL M gs })) p ⟨_, fun b o hb hn => e5 _ _ (f2 _ _ (e1 _ _ hb) (fun z => hn (by rw [z]; exact List.mem_cons_of_mem _ List.mem_cons_self))), hp⟩ (fun _ h => eX.trans h) ⟨e6 _ _ hD2, s2.mono e6⟩ (.some rel2) (fun b o hb hn => ?_) (fun b hb => ?_) ?_
  · have hn2 : b ∉ [D, q.S, q.HL, q.CL, q.KD] := hn
    simp only [List.mem_cons, List.not_mem_nil, or_false, not_or] at hn2
    exact e6 _ _ (f2 _ _ (e1 _ _ hb) hn2.2.1)
  · have hb2 : b ∈ [D, q'.S, q'.HL, q'.CL, q'.KD] := hb
    simp only [List.mem_cons, List.not_mem_nil, or_false] at hb2
    show b ∈ [D, q.S, q.HL, q.CL, q.KD] ∨ _
    simp only [List.mem_cons, List.not_mem_nil, or_false]
    rcases hb2 with z | z | z | z | z
    · exact .inl (.inl z)
    · exact .inl (.inr (.inl (by rw [z, eS])))
    · exact .inl (.inr (.inr (.inl (by rw [z, eH]))))
    · exact .inl (.inr (.inr (.inr (.inl (by rw [z, eC])))))
    · exact .inr (by rw [z]; exact e1.free hkd)
  · rw [upd_same]
    show _ = some (HO.lst [V.int 1, V.int ((keptS z gs).length : Nat), V.int ((((keptS z gs).map fun s => s.lines.length).sum : Nat) : Int)])
    rw [kl, kl2, ekl2]
    have es : (((keepL M gs).map fun x => (x.l.length : Int)).sum) = ((((keepL M gs).map fun x => x.l.length).sum : Nat) : Int) := by
      generalize keepL M gs = L
      induction L with
      | nil => rfl
      | cons x L ih => rw [List.map_cons, List.map_cons, List.sum_cons, List.sum_cons, ih]; rfl
    rw [es]
end
end KR
end
section
set_option maxRecDepth 100000
set_option maxHeartbeats 4000000
/-! tables: put, take. -/
namespace KR
open PySem PySem.Spec PyProof.Rows L2
open Vamvsa (Group columnsOf canFrom groupsOf width)
open Vamvsc (Held Change done replay)
theorem xis_same {q : SA} {M M' : Mz} (X : Addr) (h : XIs X (some (q, M))) : XIs X (some (q, M')) := h
def valB (v : Int) : Bool := decide (0 ≤ v ∧ v ≤ 9)
theorem put_bad {z : Held} {m : Int} {l : List Int} (h : l.length ≠ width z.t ∨ (∃ v ∈ l, valB v = false) ∨ ¬ (-1000 ≤ m ∧ m ≤ 1000)) : Vamvsc.step (some z) (.put m l) = (some z, VamvsBase.one (-4)) := by
  refine if_pos ?_
  rcases h with h | ⟨v, hv, hb⟩ | h
  · exact .inl h
  · refine .inr (.inl (List.any_eq_true.mpr ⟨v, hv, decide_eq_true ?_⟩))
    have := of_decide_eq_false hb
    show v < 0 ∨ (9 : Int) < v
    omega
  · refine .inr (.inr ?_)
    show m < -(1000 : Int) ∨ (1000 : Int) < m
    omega
theorem put_fine {z : Held} {m : Int} {l : List Int} (h1 : l.length = width z.t) (h2 : ∀ v ∈ l, valB v = true) (h3 : -1000 ≤ m ∧ m ≤ 1000) :
    Vamvsc.step (some z) (.put m l) = if 16 ≤ z.t.rows.length then (some z, VamvsBase.one (-6)) else Vamvsc.changeCall z ⟨true, z.t.rows.length, ⟨l.map fun v => v.toNat, m⟩⟩ := by
  refine if_neg ?_
  rintro (h | h | h | h)
  · exact h h1
  · obtain ⟨v, hv, hb⟩ := List.any_eq_true.mp h
    have h4 := of_decide_eq_true hb
    have h5 := of_decide_eq_true (h2 v hv)
    have h6 : v < 0 ∨ (9 : Int) < v := h4
    omega
  · have h6 : m < -(1000 : Int) := h
    omega
  · have h6 : (1000 : Int) < m := h
    omega
theorem change_full {z : Held} {c : Change} (h : 40 ≤ z.log.length) : Vamvsc.changeCall z c = (some z, VamvsBase.one (-7)) := if_pos h
theorem change_done {z : Held} {c : Change} (h : ¬ 40 ≤ z.log.length) : Vamvsc.changeCall z c = (some { z with t := done z.t c, log := z.log ++ [c] }, ⟨1, Vamvsc.nats [(done z.t c).rows.length, z.log.length + 1]⟩) := if_neg h
def sp_dput (A : Ads) : Sp := fun vs H Q E => ∃ (D dD vl : Addr) (q : SA) (M : Mz) (z : Held) (m : Int) (l : List Int), vs = [.ref D, .int m, .ref vl] ∧ DkAt A D dD (some (q, M)) H ∧ Rel M z ∧ H vl = some (.lst (l.map V.int)) ∧ l.length ≤ 4000 ∧
  Due A D dD (some (q, M)) (some z) (Vamvsc.step (some z) (.put m l)) H Q E
def sp_dtake (A : Ads) : Sp := fun vs H Q E => ∃ (D dD : Addr) (q : SA) (M : Mz) (z : Held) (i : Int), vs = [.ref D, .int i] ∧ DkAt A D dD (some (q, M)) H ∧ Rel M z ∧
  Due A D dD (some (q, M)) (some z) (Vamvsc.step (some z) (.take i)) H Q E
theorem vI_int {l : List Int} (h : ∀ v ∈ l, valB v = true) : vI (l.map fun v => v.toNat) = l.map V.int := by
  show (l.map fun v => v.toNat).map _ = _
  rw [List.map_map]
  refine List.map_congr_left fun v hv => ?_
  have := of_decide_eq_true (h v hv)
  show V.int ((v.toNat : Nat) : Int) = V.int v
  rw [Int.toNat_of_nonneg this.1]
section
variable {P : Program} {w : World} {K : PySem.W.Frag} {mg : Str → Option Value} {base : Heap} {A : Ads}
theorem ok_Desk_put (T : Txt K mg A) : Ok P w K mg base (L2.CX P w) 4 A.f_Desk_put P_Desk_put (sp_dput A) := by
  obtain ⟨fd, F, b⟩ := T.F_Desk_put
  obtain ⟨fd_Desk_counts, b_Desk_counts, G_Desk_counts⟩ := ok_Desk_counts (P := P) (w := w) (base := base) T
  obtain ⟨fd_Store_put, b_Store_put, G_Store_put⟩ := ok_Store_put (P := P) (w := w) (base := base) T
  obtain ⟨fd_Store_rows_now, b_Store_rows_now, G_Store_rows_now⟩ := ok_Store_rows_now (P := P) (w := w) (base := base) T
  obtain ⟨fd_want, b_want, G_want⟩ := ok_want (P := P) (w := w) (base := base) T
  refine ⟨fd, b, F.okX sc_Desk_put (fun vs H Q E h => by
    obtain ⟨D, dD, vl, q, M, z, m, l, rfl, _⟩ := h
    rfl) (fun cdv Ar outer s H vs Q E hr h => ?_)⟩
  refine ⟨_, (pss_cons (ps_expr (pe_call G_want (hr.mono (by decide)) rfl T.g_want T.k_want b_want .nil (passes_call (takes_of rfl rfl rfl rfl) (fun _ _ _ _ h => h)) (pa_cons (pe_and (pe_cmpR op_eq (pe_callB call_len_seq (by rfl) T.n_len (by decide +kernel) (pa_cons (pv 2) pa_nil)) (pe_fld (pe_fld (pv 0) rfl) rfl) (nomark _)) (pe_one (pe_callB (cr_all rfl) (by rfl) T.n_all (by decide +kernel) (pa_cons (pe_lc (own := [("value", 3)]) rfl sc_Desk_put.nd (pi_list (pv 2)) (blkOk_by (own := [("value", 3)]) (N := N_Desk_put) (sc := defScope s_Desk_put) (by decide +kernel)) (fun _ _ _ _ _ => (pg_name (i := 3) sc_Desk_put.nd rfl (by first | exact Or.inl rfl | exact Or.inr rfl))) (fun _ _ _ _ _ => pts_nil) (fun _ _ _ _ _ => (pe_chain op_le op_le pe_int (pv 3) (pe_cI T.c_MOST_VALUE)))) pa_nil)))) (pa_cons (pe_cI T.c_NO_VALUES) pa_nil))))
    (pss_cons (ps_expr (pe_call G_want (hr.mono (by decide)) rfl T.g_want T.k_want b_want .nil (passes_call (takes_of rfl rfl rfl rfl) (fun _ _ _ _ h => h)) (pa_cons (pe_chain op_le op_le (pe_un un_neg (pe_cI T.c_MOST_SUMMED)) (pv 1) (pe_cI T.c_MOST_SUMMED)) (pa_cons (pe_cI T.c_NO_VALUES) pa_nil))))
    (pss_cons (ps_expr (pe_call G_want (hr.mono (by decide)) rfl T.g_want T.k_want b_want .nil (passes_call (takes_of rfl rfl rfl rfl) (fun _ _ _ _ h => h)) (pa_cons (pe_cmpR op_lt (pe_callB call_len_seq (by rfl) T.n_len (by decide +kernel) (pa_cons (pe_meth0 (pe_fld (pv 0) rfl) T.cl_Store T.m_Store_rows_now G_Store_rows_now (hr.mono (by decide)) b_Store_rows_now .nil pass0) pa_nil)) (pe_cI T.c_MOST_ROWS) (nomark _)) (pa_cons (pe_cI T.c_FULL) pa_nil))))
    (pss_cons (ps_expr (pe_call G_want (hr.mono (by decide)) rfl T.g_want T.k_want b_want .nil (passes_call (takes_of rfl rfl rfl rfl) (fun _ _ _ _ h => h)) (pa_cons (pe_cmpR op_lt (pe_callB call_len_seq (by rfl) T.n_len (by decide +kernel) (pa_cons (pe_fld (pe_fld (pv 0) rfl) rfl) pa_nil)) (pe_cI T.c_MOST_CHANGES) (nomark _)) (pa_cons (pe_cI T.c_TOO_MANY_tables) pa_nil))))
    (pss_cons (ps_expr (pe_meth (pe_fld (pv 0) rfl) T.cl_Store T.m_Store_put G_Store_put (hr.mono (by decide)) b_Store_put .nil pass0 (pa_cons (pe_tup (pa_cons (pe_callTy call_tuple_of (by rfl) T.n_tuple (by decide +kernel) (pa_cons (pv 2) pa_nil)) (pa_cons (pv 1) pa_nil))) pa_nil)))
    (pss_one (ps_ret (pe_meth0 (pv 0) T.cl_Desk T.m_Desk_counts G_Desk_counts (hr.mono (by decide)) b_Desk_counts .nil pass0)))))))), ?_⟩
  obtain ⟨D, dD, vl, q, M, z, m, l, rfl, d, r, hvl, l4, due⟩ := h
  have hwt := r.wt
  -- the first want
  have w1 : ∀ b : Bool, (b = false → l.length ≠ width z.t ∨ (∃ v ∈ l, valB v = false) ∨ ¬ (-1000 ≤ m ∧ m ≤ 1000)) → b = false → RefW A (-4) H E := fun b hb e => due.ref (-4) (put_bad (hb e))
  -- what comes behind the values
  have tail : ∀ H1, Same H H1 → l.length = width z.t → (∀ v ∈ l, valB v = true) → -1000 ≤ m ∧ m ≤ 1000 →
      Due A D dD (some (q, M)) (some z) (if 16 ≤ z.t.rows.length then (some z, VamvsBase.one (-6)) else Vamvsc.changeCall z ⟨true, z.t.rows.length, ⟨l.map fun v => v.toNat, m⟩⟩) H Q E := fun H1 e1 h1 h2 h3 => by
    rw [← put_fine h1 h2 h3]
    exact due
  refine ⟨_, rfl, vl, _, rfl, .inl (SqL.of hvl), ?_⟩
  refine ⟨_, rfl, D, _, _, _, _, rfl, d.1, T.cl_Desk, T.na_Desk_store, rfl, q.S, _, _, _, _, rfl, d.2.self, T.cl_Store, T.na_Store_many, rfl, rfl, _, rfl, ?_⟩
  rw [List.length_map]
  by_cases c1 : l.length = width z.t
  case neg =>
    refine iteF' (decide_eq_false fun e => c1 (by rw [hwt]; exact Int.ofNat.inj (V.int.inj e))) ?_
    exact ⟨false, -4, rfl, (fun e => nomatch e), w1 false fun _ => .inl c1⟩
  refine iteT' (decide_eq_true (by rw [c1, hwt])) ?_
  refine ⟨_, rfl, vl, rfl, ⟨_, SqL.of hvl⟩, fun R hR => ?_⟩
  refine lc_list (K := K) (a := vl) (xs := l.map V.int) (fun i H' => Same H H' ∧ H' R = some (.lst (((l.take i).map valB).map V.bl))) ⟨Same.new hR, upd_same⟩ (fun i H' _ h => SqL.of (h.1 _ _ hvl)) ?_ ?_
  · rintro i x H' hi ⟨e, hR'⟩
    obtain ⟨v, hv, rfl⟩ := map_at hi
    have ilt : i < l.length := (List.getElem?_eq_some_iff.mp hv).1
    refine ⟨rfl, ?_⟩
    refine yes_of (iteT ?_)
    have fin : ∃ acc, H' R = some (.lst acc) ∧ acc.length < sizeLine ∧ Same H (upd H' R (.lst (acc ++ [V.bl (valB v)]))) ∧ (upd H' R (.lst (acc ++ [V.bl (valB v)]))) R = some (.lst (((l.take (i + 1)).map valB).map V.bl)) := by
      refine ⟨_, hR', sz_lt (by rw [List.length_map, List.length_map, List.length_take]; omega), Same.mut e hR, ?_⟩
      rw [upd_same, take_snoc hv, List.map_append, List.map_append]
      rfl
    refine ⟨_, rfl, _, _, rfl, rfl, _, rfl, ?_⟩
    by_cases c2 : 0 ≤ v
    · refine iteT' (decide_eq_true c2) ?_
      refine ⟨_, _, rfl, rfl, ?_⟩
      have ev : valB v = decide (v ≤ 9) := by
        unfold valB
        by_cases c3 : v ≤ 9
        · rw [decide_eq_true c3, decide_eq_true ⟨c2, c3⟩]
        · rw [decide_eq_false c3, decide_eq_false fun y => c3 y.2]
      rw [ev] at fin
      exact fin
    · refine iteF' (decide_eq_false c2) ?_
      have ev : valB v = false := decide_eq_false fun y => c2 y.1
      rw [ev] at fin
      exact fin
  rintro H1 ⟨e1, hR1⟩
  rw [List.length_map, List.take_length] at hR1
  have d1 := DkAt.mono e1 d
  refine ⟨R, _, rfl, SqL.of hR1, ?_⟩
  refine ⟨_, -4, rfl, fun hb => ?_, fun hb => RefW.mono (w1 false (fun _ => ?_) rfl) e1⟩
  case refine_2 =>
    rw [List.all_eq_false] at hb
    obtain ⟨b, hb1, hb2⟩ := hb
    obtain ⟨v, hv, rfl⟩ := List.mem_map.mp hb1
    exact .inr (.inl ⟨v, hv, Bool.eq_false_iff.mpr hb2⟩)
  have hall : ∀ v ∈ l, valB v = true := fun v hv => List.all_eq_true.mp hb (valB v) (List.mem_map.mpr ⟨v, hv, rfl⟩)
  -- want(-MOST_SUMMED <= m <= MOST_SUMMED)
  refine ⟨_, rfl, _, rfl, _, _, rfl, rfl, _, rfl, ?_⟩
  by_cases c2 : -1000 ≤ m
  case neg =>
    refine iteF' (decide_eq_false c2) ?_
    exact ⟨false, -4, rfl, (fun e => nomatch e), fun _ => RefW.mono (w1 false (fun _ => .inr (.inr fun y => c2 y.1)) rfl) e1⟩
  refine iteT' (decide_eq_true c2) ?_
  refine ⟨_, _, rfl, rfl, ?_⟩
  refine ⟨decide (m ≤ 1000), -4, rfl, fun hm => ?_, fun hm => RefW.mono (w1 false (fun _ => .inr (.inr fun y => of_decide_eq_false hm y.2)) rfl) e1⟩
  have due1 := tail H1 e1 c1 hall ⟨c2, of_decide_eq_true hm⟩
  -- want(len(rows_now) < MOST_ROWS, FULL)
  have enow := r.now
  have ech := r.chl
  refine ⟨_, rfl, D, _, _, _, _, rfl, d1.1, T.cl_Desk, T.na_Desk_store, rfl, q.S, _, _, rfl, d1.2.self, rfl, q, M, rfl, d1.2, fun h hh n1 n2 => ?_⟩
  obtain ⟨as, h1, h2⟩ := hh
  have el := pr_len h2
  refine ⟨h, _, rfl, .inl (SqL.of h1), _, _, rfl, rfl, ?_⟩
  rw [List.length_map, el]
  refine ⟨_, -6, rfl, fun hb3 => ?_, fun hb3 => ?_⟩
  case refine_2 =>
    have := of_decide_eq_false hb3
    rw [if_pos (by rw [← enow]; omega)] at due1
    exact RefW.mono (due1.ref (-6) rfl) e1
  have l16 := of_decide_eq_true hb3
  rw [if_neg (by rw [← enow]; omega)] at due1
  -- want(len(changes) < MOST_CHANGES, TOO_MANY)
  obtain ⟨cs, hc1, hc2⟩ := d1.2.chs
  have ec := pr_len hc2
  refine ⟨_, rfl, D, _, _, _, _, rfl, d1.1, T.cl_Desk, T.na_Desk_store, rfl, q.S, _, _, _, _, rfl, d1.2.self, T.cl_Store, T.na_Store_changes, rfl, q.CL, _, rfl, .inl (SqL.of hc1), _, _, rfl, rfl, ?_⟩
  rw [List.length_map, ec]
  refine ⟨_, -7, rfl, fun hb4 => ?_, fun hb4 => ?_⟩
  case refine_2 =>
    have := of_decide_eq_false hb4
    rw [change_full (by rw [← ech]; omega)] at due1
    exact RefW.mono (due1.ref (-7) rfl) e1
  have l40 := of_decide_eq_true hb4
  rw [change_done (by rw [← ech]; omega)] at due1
  -- store.put((tuple(values), m))
  refine ⟨_, rfl, D, _, _, _, _, rfl, d1.1, T.cl_Desk, T.na_Desk_store, rfl, q.S, _, _, rfl, d1.2.self, rfl, ?_⟩
  refine ⟨_, rfl, vl, _, rfl, .inl ⟨SqL.of (e1 _ _ hvl), fun t ht => ?_⟩⟩
  refine ⟨_, rfl, (by show 2 ≤ sizeLine; decide), fun p hp => ?_⟩
  have e2 : Same H1 (upd (upd H1 t (.tup (l.map V.int))) p (.tup [.ref t, .int m])) := (Same.new ht).trans (Same.new hp)
  have hrow : RowAt (upd (upd H1 t (.tup (l.map V.int))) p (.tup [.ref t, .int m])) p (⟨l.map fun v => v.toNat, m⟩ : SRow) := ⟨t, upd_same, by
    refine Same.new hp _ _ ?_
    rw [vI_int hall]
    exact upd_same⟩
  have rok : RowOk M.n (⟨l.map fun v => v.toNat, m⟩ : SRow) := ⟨by
    show (l.map fun v => v.toNat).length = M.n
    rw [List.length_map, c1, hwt], fun x hx => by
    obtain ⟨v, hv, rfl⟩ := List.mem_map.mp hx
    have := of_decide_eq_true (hall v hv)
    omega⟩
  have d2 := DkAt.mono e2 d1
  refine ⟨q, M, p, ⟨l.map fun v => v.toNat, m⟩, rfl, d2.2, hrow, rok, by omega, by omega, fun H3 s3 f3 => ?_⟩
  obtain ⟨d3, fr3⟩ := DkAt.fq d2 (q' := q) rfl s3 f3
  have e02 := e1.trans e2
  refine ⟨_, rfl, D, _, _, rfl, d3.1, rfl, D, dD, q, _, rfl, d3, fun H4 p4 e4 hn4 hp4 => ?_⟩
  have rel3 := r.push (c := ⟨true, z.t.rows.length, ⟨l.map fun v => v.toNat, m⟩⟩) (fun y => by cases y)
  have em : pushM M true (⟨l.map fun v => v.toNat, m⟩ : SRow) (nowM M ++ [⟨l.map fun v => v.toNat, m⟩]) = pushM M true ⟨l.map fun v => v.toNat, m⟩ (done z.t ⟨true, z.t.rows.length, ⟨l.map fun v => v.toNat, m⟩⟩).rows := by
    rw [enow]
    rfl
  refine due1.ok H4 (some (q, _)) p4 ⟨_, fun b o hb hn => fr3 b o (e02 _ _ hb) hn, hn4⟩ xis_same (DkAt.mono e4 d3) (.some (by rw [em]; exact rel3)) (fun b o hb hn => e4 _ _ (fr3 b o (e02 _ _ hb) hn)) (fun b hb => .inl hb) ?_
  rw [hp4]
  have nw : (nowM (pushM M true (⟨l.map fun v => v.toNat, m⟩ : SRow) (nowM M ++ [⟨l.map fun v => v.toNat, m⟩]))) = nowM M ++ [⟨l.map fun v => v.toNat, m⟩] := by
    show (M.hist ++ [_]).getLast?.getD [] = _
    rw [List.getLast?_append]
    rfl
  rw [nw]
  show some (HO.lst [V.int 1, V.int ((nowM M ++ [_]).length : Nat), V.int ((M.chs ++ [_]).length : Nat)]) = some (HO.lst [V.int 1, V.int (((z.t.rows ++ [_]).length : Nat) : Int), V.int ((z.log.length + 1 : Nat) : Int)])
  rw [List.length_append, List.length_append, List.length_append, enow, ech]
  rfl
theorem ok_Desk_take (T : Txt K mg A) : Ok P w K mg base (L2.CX P w) 4 A.f_Desk_take P_Desk_take (sp_dtake A) := by
  obtain ⟨fd, F, b⟩ := T.F_Desk_take
  obtain ⟨fd_Desk_counts, b_Desk_counts, G_Desk_counts⟩ := ok_Desk_counts (P := P) (w := w) (base := base) T
  obtain ⟨fd_Store_rows_now, b_Store_rows_now, G_Store_rows_now⟩ := ok_Store_rows_now (P := P) (w := w) (base := base) T
  obtain ⟨fd_Store_take, b_Store_take, G_Store_take⟩ := ok_Store_take (P := P) (w := w) (base := base) T
  obtain ⟨fd_want, b_want, G_want⟩ := ok_want (P := P) (w := w) (base := base) T
  refine ⟨fd, b, F.okX sc_Desk_take (fun vs H Q E h => by
    obtain ⟨D, dD, q, M, z, i, rfl, _⟩ := h
    rfl) (fun cdv Ar outer s H vs Q E hr h => ?_)⟩
  refine ⟨_, (pss_cons (ps_expr (pe_call G_want (hr.mono (by decide)) rfl T.g_want T.k_want b_want .nil (passes_call (takes_of rfl rfl rfl rfl) (fun _ _ _ _ h => h)) (pa_cons (pe_chain op_le op_lt pe_int (pv 1) (pe_callB call_len_seq (by rfl) T.n_len (by decide +kernel) (pa_cons (pe_meth0 (pe_fld (pv 0) rfl) T.cl_Store T.m_Store_rows_now G_Store_rows_now (hr.mono (by decide)) b_Store_rows_now .nil pass0) pa_nil))) (pa_cons (pe_cI T.c_NO_ROW) pa_nil))))
    (pss_cons (ps_expr (pe_call G_want (hr.mono (by decide)) rfl T.g_want T.k_want b_want .nil (passes_call (takes_of rfl rfl rfl rfl) (fun _ _ _ _ h => h)) (pa_cons (pe_cmpR op_lt (pe_callB call_len_seq (by rfl) T.n_len (by decide +kernel) (pa_cons (pe_fld (pe_fld (pv 0) rfl) rfl) pa_nil)) (pe_cI T.c_MOST_CHANGES) (nomark _)) (pa_cons (pe_cI T.c_TOO_MANY_tables) pa_nil))))
    (pss_cons (ps_expr (pe_meth (pe_fld (pv 0) rfl) T.cl_Store T.m_Store_take G_Store_take (hr.mono (by decide)) b_Store_take .nil pass0 (pa_cons (pv 1) pa_nil)))
    (pss_one (ps_ret (pe_meth0 (pv 0) T.cl_Desk T.m_Desk_counts G_Desk_counts (hr.mono (by decide)) b_Desk_counts .nil pass0)))))), ?_⟩
  obtain ⟨D, dD, q, M, z, i, rfl, d, r, due⟩ := h
  have enow := r.now
  have ech := r.chl
  have bad : ¬ (0 ≤ i ∧ i < ((nowM M).length : Int)) → RefW A (-3) H E := fun hb => by
    refine due.ref (-3) ?_
    have : VamvsBase.index i z.t.rows.length = none := if_neg (by rw [← enow]; exact hb)
    show (match (VamvsBase.index i z.t.rows.length).bind fun k => (z.t.rows[k]?).map fun r => (k, r) with
      | none => (some z, VamvsBase.one (-3))
      | some x => Vamvsc.changeCall z ⟨false, x.1, x.2⟩) = _
    rw [this]
    rfl
  refine ⟨_, rfl, _, _, rfl, rfl, _, rfl, ?_⟩
  by_cases c1 : 0 ≤ i
  case neg =>
    refine iteF' (decide_eq_false c1) ?_
    exact ⟨false, -3, rfl, (fun e => nomatch e), fun _ => bad fun y => c1 y.1⟩
  refine iteT' (decide_eq_true c1) ?_
  refine ⟨_, rfl, D, _, _, _, _, rfl, d.1, T.cl_Desk, T.na_Desk_store, rfl, q.S, _, _, rfl, d.2.self, rfl, q, M, rfl, d.2, fun h hh n1 n2 => ?_⟩
  obtain ⟨as, h1, h2⟩ := hh
  have el := pr_len h2
  refine ⟨h, _, rfl, .inl (SqL.of h1), _, _, rfl, rfl, ?_⟩
  rw [List.length_map, el]
  refine ⟨_, -3, rfl, fun hb => ?_, fun hb => bad fun y => of_decide_eq_false hb y.2⟩
  have c2 := of_decide_eq_true hb
  obtain ⟨k, rfl⟩ : ∃ k : Nat, i = (k : Int) := ⟨i.toNat, (Int.toNat_of_nonneg c1).symm⟩
  have klt : k < (nowM M).length := by omega
  obtain ⟨row, hrow⟩ : ∃ row, (nowM M)[k]? = some row := ⟨_, List.getElem?_eq_getElem klt⟩
  have hrow2 : z.t.rows[k]? = some row := by rw [← enow]; exact hrow
  have est : Vamvsc.step (some z) (.take (k : Int)) = Vamvsc.changeCall z ⟨false, k, row⟩ := by
    have : VamvsBase.index (k : Int) z.t.rows.length = some k := by
      unfold VamvsBase.index
      rw [if_pos ⟨c1, by rw [← enow]; exact c2⟩]
      rfl
    show (match (VamvsBase.index (k : Int) z.t.rows.length).bind fun k => (z.t.rows[k]?).map fun r => (k, r) with
      | none => (some z, VamvsBase.one (-3))
      | some x => Vamvsc.changeCall z ⟨false, x.1, x.2⟩) = _
    rw [this]
    show (match (z.t.rows[k]?).map fun r => (k, r) with
      | none => (some z, VamvsBase.one (-3))
      | some x => Vamvsc.changeCall z ⟨false, x.1, x.2⟩) = _
    rw [hrow2]
    rfl
  rw [est] at due
  obtain ⟨cs, hc1, hc2⟩ := d.2.chs
  have ec := pr_len hc2
  refine ⟨_, rfl, D, _, _, _, _, rfl, d.1, T.cl_Desk, T.na_Desk_store, rfl, q.S, _, _, _, _, rfl, d.2.self, T.cl_Store, T.na_Store_changes, rfl, q.CL, _, rfl, .inl (SqL.of hc1), _, _, rfl, rfl, ?_⟩
  rw [List.length_map, ec]
  refine ⟨_, -7, rfl, fun hb4 => ?_, fun hb4 => ?_⟩
  case refine_2 =>
    have := of_decide_eq_false hb4
    rw [change_full (by rw [← ech]; omega)] at due
    exact due.ref (-7) rfl
  have l40 := of_decide_eq_true hb4
  rw [change_done (by rw [← ech]; omega)] at due
  refine ⟨_, rfl, D, _, _, _, _, rfl, d.1, T.cl_Desk, T.na_Desk_store, rfl, q.S, _, _, rfl, d.2.self, rfl, _, rfl, q, M, k, row, rfl, d.2, hrow, by omega, fun H3 s3 f3 => ?_⟩
  obtain ⟨d3, fr3⟩ := DkAt.fq d (q' := q) rfl s3 f3
  refine ⟨_, rfl, D, _, _, rfl, d3.1, rfl, D, dD, q, _, rfl, d3, fun H4 p4 e4 hn4 hp4 => ?_⟩
  have rel3 := r.push (c := ⟨false, k, row⟩) (fun _ => hrow2)
  have em : pushM M false row ((nowM M).eraseIdx k) = pushM M false row (done z.t ⟨false, k, row⟩).rows := by
    rw [enow]
    rfl
  refine due.ok H4 (some (q, _)) p4 ⟨_, fr3, hn4⟩ xis_same (DkAt.mono e4 d3) (.some (by rw [em]; exact rel3)) (fun b o hb hn => e4 _ _ (fr3 b o hb hn)) (fun b hb => .inl hb) ?_
  rw [hp4]
  have nw : (nowM (pushM M false row ((nowM M).eraseIdx k))) = (nowM M).eraseIdx k := by
    show (M.hist ++ [_]).getLast?.getD [] = _
    rw [List.getLast?_append]
    rfl
  rw [nw]
  show some (HO.lst [V.int 1, V.int (((nowM M).eraseIdx k).length : Nat), V.int ((M.chs ++ [_]).length : Nat)]) = some (HO.lst [V.int 1, V.int (((z.t.rows.eraseIdx k).length : Nat) : Int), V.int ((z.log.length + 1 : Nat) : Int)])
  rw [List.length_append, enow, ech]
  rfl
end
end KR
end
section
set_option maxRecDepth 100000
set_option maxHeartbeats 4000000
/-! tables: refresh, ages. -/
namespace KR
open PySem PySem.Spec PyProof.Rows L2
open Vamvsa (Group columnsOf canFrom groupsOf width)
open Vamvsc (Held Change done replay)
theorem kept_neg {A : Ads} {H : Hp} {kvs : List (L2.Key × V)} {ks : List KI} (h : Paired (KeptAt A H) kvs ks) {g : Int} (hg : g < 0) : valV kvs (.inl g) = none := by
  induction h with
  | nil => rfl
  | @cons p x ps xs r t ih =>
    have ne : ¬ p.1 = .inl g := fun z => by
      have := Sum.inl.inj (r.1.symm.trans z)
      omega
    have f2 : valV (p :: ps) (.inl g) = valV ps (.inl g) := by simp [valV, List.find?_cons, ne]
    rw [f2]
    exact ih
theorem kept_look {A : Ads} {q : SA} {M : Mz} {z : Held} {H : Hp} (d : St A q M H) (r : Rel M z) (g : Int) : ∃ o : Option V, DGet H q.KD (.int g) o ∧
    ((o = none ∧ (if g < 0 then none else Vamvsc.storeOf z g.toNat) = none) ∨ ∃ x s a, o = some a ∧ g = (x.g : Int) ∧ findK M.kept x.g = some x ∧ KRel z x s ∧ (if g < 0 then none else Vamvsc.storeOf z g.toNat) = some s) := by
  obtain ⟨kvs, hk1, hk2⟩ := d.kept
  refine ⟨valV kvs (.inl g), DGet.k (k := .inl g) hk1, ?_⟩
  by_cases c : g < 0
  · rw [if_pos c]
    exact .inl ⟨kept_neg hk2 c, rfl⟩
  rw [if_neg c]
  obtain ⟨k, rfl⟩ : ∃ k : Nat, g = (k : Int) := ⟨g.toNat, by omega⟩
  rw [Int.toNat_natCast]
  rcases r.find k with ⟨h1, h2⟩ | ⟨x, s, h1, h2, h3⟩
  · rcases kept_find hk2 k with ⟨-, z2⟩ | ⟨y, p, z1, -⟩
    · exact .inl ⟨z2, h2⟩
    · rw [h1] at z1; cases z1
  · rcases kept_find hk2 k with ⟨z1, -⟩ | ⟨y, p, z1, z2, z3, z4⟩
    · rw [h1] at z1; cases z1
    · rw [h1] at z1
      cases z1
      refine .inr ⟨x, s, p.2, z3, by rw [z2], by rw [z2]; exact h1, h3, h2⟩
def sp_drefresh (A : Ads) : Sp := fun vs H Q E => ∃ (D dD : Addr) (q : SA) (M : Mz) (z : Held) (g : Int), vs = [.ref D, .int g] ∧ DkAt A D dD (some (q, M)) H ∧ Rel M z ∧
  Due A D dD (some (q, M)) (some z) (Vamvsc.step (some z) (.refresh g)) H Q E
def sp_dages (A : Ads) : Sp := fun vs H Q _ => ∃ (D dD : Addr) (q : SA) (M : Mz) (z : Held), vs = [.ref D] ∧ DkAt A D dD (some (q, M)) H ∧ Rel M z ∧
  ∀ H' p, Same H H' → H p = none → H' p = some (.lst ((VamvscNeutral.encode (Vamvsc.looked z .ages)).map V.int)) → Q (.ref p) H'
theorem ChsAt.fq {A : Ads} {q : SA} {M : Mz} {H H' : Hp} (d : St A q M H) (f : Fq q H H') {a : Addr} {cs : List (Bool × SRow)} (h : ChsAt H a cs) (n1 : a ≠ q.HL) (n2 : a ≠ q.CL) : ChsAt H' a cs := by
  obtain ⟨hs, h1, -, -⟩ := d.hist
  obtain ⟨cs2, h2, -⟩ := d.chs
  obtain ⟨kvs, h3, -⟩ := d.kept
  have mv : ∀ b xs, H b = some (.tup xs) → H' b = some (.tup xs) := fun b xs hb => f b _ hb (ne_of hb d.self fun z => nomatch z) (ne_of hb h1 fun z => nomatch z) (ne_of hb h2 fun z => nomatch z) (ne_of hb h3 fun z => nomatch z)
  obtain ⟨as, k1, k2⟩ := h
  exact ⟨as, f _ _ k1 (ne_of k1 d.self fun z => nomatch z) n1 n2 (ne_of k1 h3 fun z => nomatch z), pr_imp k2 fun _ _ ⟨p, p1, u, u1, u2⟩ => ⟨p, mv _ _ p1, u, mv _ _ u1, mv _ _ u2⟩⟩
theorem lines_eq {z : Held} {x : KI} {s : SStore} (k : KRel z x s) : x.l.length = s.lines.length := k.2.2.2.1.length_eq
section
variable {P : Program} {w : World} {K : PySem.W.Frag} {mg : Str → Option Value} {base : Heap} {A : Ads}
theorem ok_Desk_refresh (T : Txt K mg A) : Ok P w K mg base (L2.CX P w) 4 A.f_Desk_refresh P_Desk_refresh (sp_drefresh A) := by
  obtain ⟨fd, F, b⟩ := T.F_Desk_refresh
  obtain ⟨fd_Store_lines, b_Store_lines, G_Store_lines⟩ := ok_Store_lines (P := P) (w := w) (base := base) T
  obtain ⟨fd_Store_refresh, b_Store_refresh, G_Store_refresh⟩ := ok_Store_refresh (P := P) (w := w) (base := base) T
  obtain ⟨fd_Store_since, b_Store_since, G_Store_since⟩ := ok_Store_since (P := P) (w := w) (base := base) T
  obtain ⟨fd_Store_touched, b_Store_touched, G_Store_touched⟩ := ok_Store_touched (P := P) (w := w) (base := base) T
  obtain ⟨fd_want, b_want, G_want⟩ := ok_want (P := P) (w := w) (base := base) T
  refine ⟨fd, b, F.okX sc_Desk_refresh (fun vs H Q E h => by
    obtain ⟨D, dD, q, M, z, g, rfl, _⟩ := h
    rfl) (fun cdv Ar outer s H vs Q E hr h => ?_)⟩
  refine ⟨_, (pss_cons (ps_expr (pe_call G_want (hr.mono (by decide)) rfl T.g_want T.k_want b_want .nil (passes_call (takes_of rfl rfl rfl rfl) (fun _ _ _ _ h => h)) (pa_cons (pe_cmp (pc_din (hu_of hr) (pv 1) (pe_fld (pe_fld (pv 0) rfl) rfl))) (pa_cons (pe_cI T.c_NOT_KEPT) pa_nil))))
    (pss_cons (ps_set (i := 2) sc_Desk_refresh.nd rfl (by first | exact Or.inl rfl | exact Or.inr rfl) (pe_meth (pe_fld (pv 0) rfl) T.cl_Store T.m_Store_since G_Store_since (hr.mono (by decide)) b_Store_since .nil pass0 (pa_cons (pv 1) pa_nil)))
    (pss_cons (ps_expr (pe_meth (pe_fld (pv 0) rfl) T.cl_Store T.m_Store_refresh G_Store_refresh (hr.mono (by decide)) b_Store_refresh .nil pass0 (pa_cons (pv 1) pa_nil)))
    (pss_one (ps_ret (pe_lst (pa_cons pe_int (pa_cons (pe_callB call_len_seq (by rfl) T.n_len (by decide +kernel) (pa_cons (pv 2) pa_nil)) (pa_cons (pe_meth (pe_fld (pv 0) rfl) T.cl_Store T.m_Store_touched G_Store_touched (hr.mono (by decide)) b_Store_touched .nil pass0 (pa_cons (pv 1) (pa_cons (pv 2) pa_nil))) (pa_cons (pe_meth (pe_fld (pv 0) rfl) T.cl_Store T.m_Store_lines G_Store_lines (hr.mono (by decide)) b_Store_lines .nil pass0 (pa_cons (pv 1) pa_nil)) pa_nil)))))))))), ?_⟩
  obtain ⟨D, dD, q, M, z, g, rfl, d, r, due⟩ := h
  obtain ⟨o, dg, hcase⟩ := kept_look d.2 r g
  refine ⟨_, rfl, _, rfl, D, _, _, _, _, rfl, d.1, T.cl_Desk, T.na_Desk_store, rfl, q.S, _, _, _, _, rfl, d.2.self, T.cl_Store, T.na_Store_kept, rfl, q.KD, o, rfl, dg, ?_⟩
  rcases hcase with ⟨rfl, hn⟩ | ⟨x, s, a, rfl, rfl, hx, kr, hs⟩
  · refine ⟨false, -5, rfl, (fun e => nomatch e), fun _ => due.ref (-5) ?_⟩
    show (match (if g < 0 then none else Vamvsc.storeOf z g.toNat) with
      | none => (some z, VamvsBase.one (-5))
      | some s => _) = _
    rw [hn]
  have est : Vamvsc.step (some z) (.refresh (x.g : Int)) = (some (Vamvsc.putStore z (Vamvsc.refreshed z s)), ⟨1, Vamvsc.nats [(Vamvsc.since z s).length, (Vamvsc.touched (width z.t) s.g (Vamvsc.since z s)).length, (Vamvsc.refreshed z s).lines.length]⟩) := by
    show (match (if (x.g : Int) < 0 then none else Vamvsc.storeOf z (x.g : Int).toNat) with
      | none => (some z, VamvsBase.one (-5))
      | some s => (some (Vamvsc.putStore z (Vamvsc.refreshed z s)), ⟨1, Vamvsc.nats [(Vamvsc.since z s).length, (Vamvsc.touched (width z.t) s.g (Vamvsc.since z s)).length, (Vamvsc.refreshed z s).lines.length]⟩)) = _
    rw [hs]
  rw [est] at due
  obtain ⟨w1, w2⟩ := r.whole kr
  have hlen : (refL M.n x.g x.l (M.chs.drop x.made)).length ≤ 60 := by
    rw [w1.length_eq]
    have h1 := groups_len z.t s.g
    have h2 := (now_ok d.2.ok).1
    rw [r.now] at h2
    omega
  have xk := d.2.ok.kg x (findK_mem hx).1
  have crow : ∀ c ∈ M.chs.drop x.made, RowOk M.n c.2 := fun c hc => d.2.ok.crow c (List.mem_of_mem_drop hc)
  have c40 : (M.chs.drop x.made).length ≤ 40 := by
    have := d.2.ok.c40
    rw [List.length_drop]
    omega
  refine ⟨true, -5, rfl, fun _ => ?_, fun e => nomatch e⟩
  refine ⟨_, rfl, D, _, _, _, _, rfl, d.1, T.cl_Desk, T.na_Desk_store, rfl, q.S, _, _, rfl, d.2.self, rfl, _, rfl, q, M, x, rfl, d.2, hx, fun H1 pc e1 hpc hch => ?_⟩
  have d1 := DkAt.mono e1 d
  refine ⟨_, rfl, D, _, _, _, _, rfl, d1.1, T.cl_Desk, T.na_Desk_store, rfl, q.S, _, _, rfl, d1.2.self, rfl, _, rfl, q, M, x, rfl, d1.2, hx, r.neg kr, hlen, fun H2 s2 f2 => ?_⟩
  obtain ⟨hs0, hS1, -, -⟩ := d.2.hist
  obtain ⟨cs0, hC1, -⟩ := d.2.chs
  have hch2 := ChsAt.fq d1.2 f2 hch (Ne.symm (ne_of_none hS1 hpc)) (Ne.symm (ne_of_none hC1 hpc))
  obtain ⟨d2, fr2⟩ := DkAt.fq d1 (q' := q) rfl s2 f2
  obtain ⟨as, a1, a2⟩ := hch2
  refine ⟨_, rfl, pc, _, rfl, .inl (SqL.of a1), ?_⟩
  refine ⟨_, rfl, D, _, _, _, _, rfl, d2.1, T.cl_Desk, T.na_Desk_store, rfl, q.S, _, _, rfl, s2.self, rfl, _, rfl, _, rfl, q, _, x.g, pc, M.chs.drop x.made, rfl, s2, xk.1, ⟨as, a1, a2⟩, c40, crow, fun H3 e3 => ?_⟩
  have d3 := DkAt.mono e3 d2
  have hmem : (⟨x.g, refL M.n x.g x.l (M.chs.drop x.made), M.chs.length⟩ : KI) ∈ replK M.kept ⟨x.g, refL M.n x.g x.l (M.chs.drop x.made), M.chs.length⟩ := List.mem_map.mpr ⟨x, (findK_mem hx).1, if_pos rfl⟩
  have la := d3.2.linesAt (findK_of s2.ok hmem)
  refine ⟨_, rfl, D, _, _, _, _, rfl, d3.1, T.cl_Desk, T.na_Desk_store, rfl, q.S, _, _, rfl, d3.2.self, rfl, _, rfl, q.S, q.KD, x.g, _, rfl, la, (by show 4 ≤ sizeLine; decide), fun p hp => ?_⟩
  rw [List.length_map, pr_len a2]
  refine due.ok _ (some (q, _)) p ⟨_, fun b o hb hn => e3 _ _ (fr2 b o (e1 _ _ hb) hn), hp⟩ xis_same (DkAt.mono (Same.new hp) d3) (.some (r.refresh kr)) (fun b o hb hn => Same.new hp _ _ (e3 _ _ (fr2 b o (e1 _ _ hb) hn))) (fun b hb => .inl hb) ?_
  rw [upd_same, ← r.touch kr s.g, ← kr.1]
  show some (HO.lst [V.int 1, V.int ((M.chs.drop x.made).length : Nat), V.int (touchL M.n x.g (M.chs.drop x.made) : Nat), V.int ((refL M.n x.g x.l (M.chs.drop x.made)).length : Nat)]) =
    some (HO.lst [V.int 1, V.int (((z.log.drop s.at_).length : Nat) : Int), V.int ((touchL M.n x.g (M.chs.drop x.made) : Nat) : Int), V.int (((Vamvsc.refreshed z s).lines.length : Nat) : Int)])
  rw [w2, w1.length_eq, List.length_drop, List.length_drop, r.chl, kr.2.1]
theorem ok_Desk_ages (T : Txt K mg A) : Ok P w K mg base CX0 2 A.f_Desk_ages P_Desk_ages (sp_dages A) := by
  obtain ⟨fd, F, b⟩ := T.F_Desk_ages
  obtain ⟨fd_Store_age, b_Store_age, G_Store_age⟩ := ok_Store_age (P := P) (w := w) (base := base) T
  obtain ⟨fd_Store_lines, b_Store_lines, G_Store_lines⟩ := ok_Store_lines (P := P) (w := w) (base := base) T
  refine ⟨fd, b, F.ok sc_Desk_ages (fun vs H Q E h => by
    obtain ⟨D, dD, q, M, z, rfl, _⟩ := h
    rfl) (fun cdv Ar outer s H vs Q E hr h => ?_)⟩
  refine ⟨_, (pss_cons (ps_set (i := 1) sc_Desk_ages.nd rfl (by first | exact Or.inl rfl | exact Or.inr rfl) (pe_lst (pa_cons (pe_callB call_lenD (by rfl) T.n_len (by decide +kernel) (pa_cons (pe_fld (pe_fld (pv 0) rfl) rfl) pa_nil)) pa_nil)))
    (pss_cons (ps_for PassesOwn.never rfl (pi_list (pe_callB (call_sortedDI rfl) (by rfl) T.n_sorted (by decide +kernel) (pa_cons (pe_fld (pe_fld (pv 0) rfl) rfl) pa_nil))) (pg_name (i := 2) sc_Desk_ages.nd rfl (by first | exact Or.inl rfl | exact Or.inr rfl)) (pss_one (ps_expr (pe_bm PySem.F.plainAttrs_list PySem.F.slot_list_extend PySem.F.type_list_extend mt_extend (pv 1) (pa_cons (pe_lst (pa_cons (pv 2) (pa_cons (pe_meth (pe_fld (pv 0) rfl) T.cl_Store T.m_Store_age G_Store_age (hr.mono (by decide)) b_Store_age .nil pass0 (pa_cons (pv 2) pa_nil)) (pa_cons (pe_meth (pe_fld (pv 0) rfl) T.cl_Store T.m_Store_lines G_Store_lines (hr.mono (by decide)) b_Store_lines .nil pass0 (pa_cons (pv 2) pa_nil)) pa_nil)))) pa_nil)))))
    (pss_one (ps_ret (pv 1))))), ?_⟩
  obtain ⟨D, dD, q, M, z, rfl, d, r, k⟩ := h
  have k16 := d.2.ok.k16
  obtain ⟨kvs, hk1, hk2⟩ := d.2.kept
  refine ⟨_, rfl, D, _, _, _, _, rfl, d.1, T.cl_Desk, T.na_Desk_store, rfl, q.S, _, _, _, _, rfl, d.2.self, T.cl_Store, T.na_Store_kept, rfl, q.KD, kvs, rfl, hk1, (by show 1 ≤ sizeLine; decide), fun pf hpf => ?_⟩
  have e1 := Same.new (o := .lst [V.int (kvs.length : Nat)]) hpf
  have hpf1 : upd H pf (.lst [V.int (kvs.length : Nat)]) pf = some (.lst [V.int (kvs.length : Nat)]) := upd_same
  generalize upd H pf (.lst [V.int (kvs.length : Nat)]) = H1 at e1 hpf1 ⊢
  have d1 := DkAt.mono e1 d
  obtain ⟨kvs1, hk11, hk12⟩ := d1.2.kept
  refine ⟨_, rfl, D, _, _, _, _, rfl, d1.1, T.cl_Desk, T.na_Desk_store, rfl, q.S, _, _, _, _, rfl, d1.2.self, T.cl_Store, T.na_Store_kept, rfl, q.KD, kvs1, _, rfl, .inl hk11, kept_keys hk12, by rw [List.length_map]; omega, fun ys p hperm hpair hp => ?_⟩
  rw [kept_ints d.2.ok hperm hpair, List.map_map]
  have e2 := e1.trans (Same.new (o := .lst (M.kept.map (V.int ∘ fun x => (x.g : Int)))) hp)
  have npf : p ≠ pf := Ne.symm (ne_of_none hpf1 hp)
  have ek := pr_len hk2
  refine ⟨p, rfl, ⟨_, SqL.of upd_same⟩, for_list (K := K) (a := p) (xs := M.kept.map (V.int ∘ fun x => (x.g : Int)))
    (fun i σ H' => ∃ v2 : Option V, σ = [some (.ref D), some (.ref pf), v2] ∧ Same H H' ∧ H' p = some (.lst (M.kept.map (V.int ∘ fun x => (x.g : Int)))) ∧
      H' pf = some (.lst (V.int (M.kept.length : Nat) :: ((M.kept.take i).flatMap fun x => [V.int (x.g : Int), V.int (ageM M x : Nat), V.int (x.l.length : Nat)]))))
    ⟨none, rfl, e2, upd_same, by rw [upd_ne (Ne.symm npf), hpf1, ek]; rfl⟩ (fun i σ H' _ ⟨_, _, _, h, _⟩ => SqL.of h) ?_ ?_⟩
  · rintro i y σ H' hi ⟨v2, rfl, e3, hp3, hf3⟩
    obtain ⟨x, hx, rfl⟩ := map_at hi
    have fx := findK_of d.2.ok (List.mem_of_getElem? hx)
    have ilt : i < M.kept.length := (List.getElem?_eq_some_iff.mp hx).1
    have d3 := DkAt.mono e3 d
    refine ⟨_, rfl, .inl ⟨rfl, _, SqL.of hf3⟩, ?_⟩
    refine ⟨_, rfl, ?_⟩
    refine ⟨_, rfl, D, _, _, _, _, rfl, d3.1, T.cl_Desk, T.na_Desk_store, rfl, q.S, _, _, rfl, d3.2.self, rfl, _, rfl, q, M, x, rfl, d3.2, fx, ?_⟩
    refine ⟨_, rfl, D, _, _, _, _, rfl, d3.1, T.cl_Desk, T.na_Desk_store, rfl, q.S, _, _, rfl, d3.2.self, rfl, _, rfl, q.S, q.KD, x.g, x.l, rfl, d3.2.linesAt fx, (by show 3 ≤ sizeLine; decide), fun t ht => ?_⟩
    have e4 := Same.new (o := .lst [V.int (x.g : Int), V.int (ageM M x : Nat), V.int (x.l.length : Nat)]) ht
    refine ⟨pf, t, _, _, rfl, rfl, e4 _ _ hf3, upd_same, sz_le ?_, ?_⟩
    · rw [List.length_cons]
      have : ∀ l : List KI, (l.flatMap fun x => [V.int (x.g : Int), V.int (ageM M x : Nat), V.int (x.l.length : Nat)]).length = 3 * l.length := by
        intro l
        induction l with
        | nil => rfl
        | cons a l ih =>
          rw [List.flatMap_cons, List.length_append, ih]
          simp only [List.length_cons, List.length_nil]
          omega
      rw [this, List.length_take]
      show _ + 1 + 3 ≤ _
      omega
    · refine ⟨some (V.int (x.g : Int)), rfl, Same.mut (e3.trans e4) hpf, by rw [upd_ne npf]; exact e4 _ _ hp3, ?_⟩
      rw [upd_same, take_snoc hx, List.flatMap_append]
      rfl
  · rintro σ H' ⟨v2, rfl, e3, hp3, hf3⟩
    rw [List.length_map, List.take_length] at hf3
    refine ⟨_, rfl, k H' pf e3 hpf ?_⟩
    rw [hf3]
    show _ = some (HO.lst ((((z.kept.length : Nat) : Int) :: z.kept.flatMap fun s => Vamvsc.nats [s.g, Vamvsc.age z s, s.lines.length]).map V.int))
    rw [List.map_cons, ← pr_len r.kept, List.map_flatMap]
    congr 2
    congr 1
    have aux : ∀ {l : List KI} {m : List SStore}, Paired (KRel z) l m → (l.flatMap fun x => [V.int (x.g : Int), V.int (ageM M x : Nat), V.int (x.l.length : Nat)]) = m.flatMap fun s => (Vamvsc.nats [s.g, Vamvsc.age z s, s.lines.length]).map V.int := by
      intro l m h
      induction h with
      | nil => rfl
      | cons hk t ih =>
        rw [List.flatMap_cons, List.flatMap_cons, ih, r.age hk, hk.1, lines_eq hk]
        rfl
    exact aux r.kept
end
end KR
end
section
set_option maxRecDepth 100000
set_option maxHeartbeats 4000000
/-! tables: read, together, was. -/
namespace KR
open PySem PySem.Spec PyProof.Rows L2
open Vamvsa (Group columnsOf canFrom groupsOf width rolled)
open Vamvsc (Held Change done replay)
theorem firstMin_mem {l : List KI} {x : KI} (h : firstMin l = some x) : x ∈ l := by
  have aux : ∀ (l : List KI) (b : Option KI), (l.foldl (fun b x => match b with
      | none => some x
      | some y => if x.l.length < y.l.length then some x else some y) b) = some x → b = some x ∨ x ∈ l := by
    intro l
    induction l with
    | nil => exact fun b h => .inl h
    | cons a l ih =>
      intro b h
      rcases ih _ h with z | z
      · cases b with
        | none =>
          have z2 : some a = some x := z
          exact .inr (by rw [Option.some.inj z2]; exact List.mem_cons_self)
        | some y =>
          have z2 : (if a.l.length < y.l.length then some a else some y) = some x := z
          split at z2
          · exact .inr (by rw [Option.some.inj z2]; exact List.mem_cons_self)
          · exact .inl z2
      · exact .inr (List.mem_cons_of_mem _ z)
  rcases aux l none h with z | z
  · cases z
  · exact z
def ansS (z : Held) (g : Nat) : Option SStore → List Group
  | none => groupsOf z.t g
  | some s => rolled (width z.t) s.g g s.lines
theorem lines_pos {z : Held} {x : KI} {s : SStore} (k : KRel z x s) : ∀ y ∈ s.lines, 0 < y.n := by
  rw [k.2.2.2.2]
  exact groups_pos _ _
theorem ans_ok {M : Mz} {z : Held} (ok : MOk M) (r : Rel M z) {g : Nat} (hg : g < 2 ^ M.n) {src : Option KI} {src' : Option SStore} (o : ORel z src src') (hs : ∀ x, src = some x → x ∈ M.kept ∧ canFrom M.n x.g g = true) :
    (ansM M g src).Perm (ansS z g src') ∧ KOk (columnsOf M.n g).length (ansM M g src) ∧ SL (columnsOf M.n g).length (ansS z g src') ∧ (ansM M g src).length < 64 := by
  have n4 := ok.n4
  have w4 : (columnsOf M.n g).length ≤ 4 := Nat.le_trans (cols_len _ _) n4
  cases o with
  | none =>
    have nw := now_ok ok
    obtain ⟨a, b⟩ := ansL_ok (g := g) n4 (nowM M) [] (KOk.nil w4) nw.2
    have b2 : (ansL M.n g (nowM M)).length ≤ 0 + (nowM M).length := b
    refine ⟨?_, a, ?_, ?_⟩
    · have := r.ans z.log.length g
      rw [← r.cur] at this
      show (ansL M.n g (nowM M)).Perm (groupsOf z.t g)
      rw [r.now]
      exact this
    · have := groups_SL z.t g
      rw [r.wt] at this
      exact this
    · show (ansL M.n g (nowM M)).length < 64
      omega
  | @some x s k =>
    obtain ⟨hm, hc⟩ := hs x rfl
    obtain ⟨k1, k2, k3, k4⟩ := ok.kg x hm
    obtain ⟨a, b⟩ := rollL_ok (n := M.n) (b := x.g) (s := g) (by omega) k1 hg hc x.l [] (KOk.nil w4) (fun y hy => ⟨k2.len y hy, k2.dig y hy⟩)
    have b2 : (rollL M.n x.g g x.l).length ≤ 0 + x.l.length := b
    refine ⟨?_, a, ?_, ?_⟩
    · show (rollL M.n x.g g x.l).Perm (rolled (width z.t) s.g g s.lines)
      rw [r.wt, ← k.1]
      exact rollL_perm k.2.2.2.1 (lines_pos k)
    · show SL _ (rolled (width z.t) s.g g s.lines)
      rw [r.wt]
      exact rolled_SL _ _ _ _
    · show (rollL M.n x.g g x.l).length < 64
      omega
theorem index_some {i : Nat} {n : Nat} (h : i < n) : VamvsBase.index (i : Int) n = some i := by
  unfold VamvsBase.index
  rw [if_pos ⟨by omega, by omega⟩]
  rfl
theorem index_no {i : Int} {n : Nat} (h : ¬ (0 ≤ i ∧ i < (n : Int))) : VamvsBase.index i n = none := if_neg h
def readA (z : Held) (x : Nat) (src' : Option SStore) : VamvsBase.Answer := match src' with
  | none => ⟨1, [-1, 0, (z.t.rows.length : Int)] ++ Vamvsc.lines (groupsOf z.t x)⟩
  | some s => ⟨1, Vamvsc.nats [s.g, Vamvsc.age z s, s.lines.length] ++ Vamvsc.lines (rolled (width z.t) s.g x s.lines)⟩
theorem read_step {z : Held} {g a : Int} : Vamvsc.step (some z) (.read_ g a) = (some z, match VamvsBase.index g (2 ^ width z.t) with
    | none => VamvsBase.one (-2)
    | some x => if a < 0 then VamvsBase.one (-8) else readA z x (Vamvsc.readBy z x a.toNat)) := by
  show (some z, match VamvsBase.index g (2 ^ width z.t) with
    | none => VamvsBase.one (-2)
    | some x => if a < 0 then VamvsBase.one (-8) else match Vamvsc.readBy z x a.toNat with
      | none => _
      | some s => _) = _
  cases VamvsBase.index g (2 ^ width z.t) with
  | none => rfl
  | some x =>
    by_cases c : a < 0
    · show (some z, if a < 0 then _ else _) = (some z, if a < 0 then _ else _)
      rw [if_pos c, if_pos c]
    · show (some z, if a < 0 then _ else _) = (some z, if a < 0 then _ else _)
      rw [if_neg c, if_neg c]
      cases Vamvsc.readBy z x a.toNat <;> rfl
theorem was_step {z : Held} {n g : Int} : Vamvsc.step (some z) (.was n g) = (some z, match VamvsBase.index n (z.log.length + 1) with
    | none => VamvsBase.one (-9)
    | some k => match VamvsBase.index g (2 ^ width z.t) with
      | none => VamvsBase.one (-2)
      | some x => ⟨1, Vamvsc.lines (groupsOf (replay z k) x)⟩) := rfl
def sp_dread (A : Ads) : Sp := fun vs H Q E => ∃ (D dD : Addr) (q : SA) (M : Mz) (z : Held) (g a : Int), vs = [.ref D, .int g, .int a] ∧ DkAt A D dD (some (q, M)) H ∧ Rel M z ∧
  Due A D dD (some (q, M)) (some z) (Vamvsc.step (some z) (.read_ g a)) H Q E
def sp_dwas (A : Ads) : Sp := fun vs H Q E => ∃ (D dD : Addr) (q : SA) (M : Mz) (z : Held) (n g : Int), vs = [.ref D, .int n, .int g] ∧ DkAt A D dD (some (q, M)) H ∧ Rel M z ∧
  Due A D dD (some (q, M)) (some z) (Vamvsc.step (some z) (.was n g)) H Q E
def sp_dtogether (A : Ads) : Sp := fun vs H Q _ => ∃ (D dD : Addr) (q : SA) (M : Mz) (z : Held), vs = [.ref D] ∧ DkAt A D dD (some (q, M)) H ∧ Rel M z ∧
  ∀ H' p, Same H H' → H p = none → H' p = some (.lst ((VamvscNeutral.encode (Vamvsc.looked z .together)).map V.int)) → Q (.ref p) H'
theorem one_ok {n : Nat} {g : Int} : (∀ i ∈ [g], 0 ≤ i ∧ i < ((2 ^ n : Nat) : Int)) ↔ (0 ≤ g ∧ g < ((2 ^ n : Nat) : Int)) := ⟨fun h => h g List.mem_cons_self, fun h i hi => by rw [List.mem_singleton.mp hi]; exact h⟩
theorem one_bad {n : Nat} {g : Int} : (∃ i ∈ [g], ¬ (0 ≤ i ∧ i < ((2 ^ n : Nat) : Int))) → ¬ (0 ≤ g ∧ g < ((2 ^ n : Nat) : Int)) := by
  rintro ⟨i, hi, h⟩
  rw [List.mem_singleton.mp hi] at h
  exact h
theorem linesV_len {wd : Nat} {m : List Group} (sl : SL wd m) (w4 : wd ≤ 4) (h : m.length < 64) : (linesV m).length ≤ 1000 := by
  unfold linesV
  have := lineV_len (l := m) (wd := wd) (fun x hx => sl.len x hx) w4
  rw [List.length_cons]
  omega
section
variable {P : Program} {w : World} {K : PySem.W.Frag} {mg : Str → Option Value} {base : Heap} {A : Ads}
theorem ok_Desk_read (T : Txt K mg A) : Ok P w K mg base (L2.CX P w) 5 A.f_Desk_read P_Desk_read (sp_dread A) := by
  obtain ⟨fd, F, b⟩ := T.F_Desk_read
  obtain ⟨fd_Desk_want_groupings, b_Desk_want_groupings, G_Desk_want_groupings⟩ := ok_Desk_want_groupings (P := P) (w := w) (base := base) T
  obtain ⟨fd_Store_age, b_Store_age, G_Store_age⟩ := ok_Store_age (P := P) (w := w) (base := base) T
  obtain ⟨fd_Store_answer_from, b_Store_answer_from, G_Store_answer_from⟩ := ok_Store_answer_from (P := P) (w := w) (base := base) T
  obtain ⟨fd_Store_lines, b_Store_lines, G_Store_lines⟩ := ok_Store_lines (P := P) (w := w) (base := base) T
  obtain ⟨fd_Store_read_from, b_Store_read_from, G_Store_read_from⟩ := ok_Store_read_from (P := P) (w := w) (base := base) T
  obtain ⟨fd_Store_rows_now, b_Store_rows_now, G_Store_rows_now⟩ := ok_Store_rows_now (P := P) (w := w) (base := base) T
  obtain ⟨fd_lines_told, b_lines_told, G_lines_told⟩ := ok_lines_told (P := P) (w := w) (base := base) T
  obtain ⟨fd_want, b_want, G_want⟩ := ok_want (P := P) (w := w) (base := base) T
  refine ⟨fd, b, F.okX sc_Desk_read (fun vs H Q E h => by
    obtain ⟨D, dD, q, M, z, g, a, rfl, _⟩ := h
    rfl) (fun cdv Ar outer s H vs Q E hr h => ?_)⟩
  refine ⟨_, (pss_cons (ps_expr (pe_meth (pv 0) T.cl_Desk T.m_Desk_want_groupings G_Desk_want_groupings (hr.mono (by decide)) b_Desk_want_groupings .nil (passes_call (takes_of rfl rfl rfl rfl) (fun _ _ _ _ h => h)) (pa_cons (pe_lst (pa_cons (pv 1) pa_nil)) pa_nil)))
    (pss_cons (ps_expr (pe_call G_want (hr.mono (by decide)) rfl T.g_want T.k_want b_want .nil (passes_call (takes_of rfl rfl rfl rfl) (fun _ _ _ _ h => h)) (pa_cons (pe_cmpR op_ge (pv 2) pe_int (nomark _)) (pa_cons (pe_cI T.c_BELOW) pa_nil))))
    (pss_cons (ps_set (i := 3) sc_Desk_read.nd rfl (by first | exact Or.inl rfl | exact Or.inr rfl) (pe_meth (pe_fld (pv 0) rfl) T.cl_Store T.m_Store_read_from G_Store_read_from (hr.mono (by decide)) b_Store_read_from .nil pass0 (pa_cons (pv 1) (pa_cons (pv 2) pa_nil))))
    (pss_cons (ps_set (i := 4) sc_Desk_read.nd rfl (by first | exact Or.inl rfl | exact Or.inr rfl) (pe_lst (pa_cons pe_int (pa_cons (pv 3) (pa_cons pe_int (pa_cons (pe_callB call_len_seq (by rfl) T.n_len (by decide +kernel) (pa_cons (pe_meth0 (pe_fld (pv 0) rfl) T.cl_Store T.m_Store_rows_now G_Store_rows_now (hr.mono (by decide)) b_Store_rows_now .nil pass0) pa_nil)) pa_nil))))))
    (pss_cons (ps_if (pt_cmpR op_ne (pv 3) (pe_cI T.c_BY_TABLE) (nomark _)) (pss_one (ps_set (i := 4) sc_Desk_read.nd rfl (by first | exact Or.inl rfl | exact Or.inr rfl) (pe_lst (pa_cons pe_int (pa_cons (pv 3) (pa_cons (pe_meth (pe_fld (pv 0) rfl) T.cl_Store T.m_Store_age G_Store_age (hr.mono (by decide)) b_Store_age .nil pass0 (pa_cons (pv 3) pa_nil)) (pa_cons (pe_meth (pe_fld (pv 0) rfl) T.cl_Store T.m_Store_lines G_Store_lines (hr.mono (by decide)) b_Store_lines .nil pass0 (pa_cons (pv 3) pa_nil)) pa_nil))))))) pss_nil)
    (pss_one (ps_ret (pe_op op_cat (pv 4) (pe_call G_lines_told (hr.mono (by decide)) rfl T.g_lines_told T.k_lines_told b_lines_told .nil pass0 (pa_cons (pe_meth (pe_fld (pv 0) rfl) T.cl_Store T.m_Store_answer_from G_Store_answer_from (hr.mono (by decide)) b_Store_answer_from .nil pass0 (pa_cons (pv 3) (pa_cons (pv 1) pa_nil))) pa_nil)))))))))), ?_⟩
  obtain ⟨D, dD, q, M, z, g, a, rfl, d, r, due⟩ := h
  have n4 := d.2.ok.n4
  rw [read_step] at due
  -- want_groupings([g])
  refine ⟨_, rfl, D, _, _, rfl, d.1, rfl, _, rfl, (by show 1 ≤ sizeLine; decide), fun gl hgl => ?_⟩
  have e0 := Same.new (o := .lst [V.int g]) hgl
  refine ⟨D, dD, gl, q, M, [g], rfl, DkAt.mono e0 d, upd_same, (by show 1 ≤ 4000; decide), fun hall H1 e1 => ?_, fun hbad => ?_⟩
  case refine_2 =>
    rw [index_no (by rw [r.wt]; exact one_bad hbad)] at due
    exact RefW.mono (due.ref (-2) rfl) e0
  have hg := one_ok.mp hall
  obtain ⟨k, rfl⟩ : ∃ k : Nat, g = (k : Int) := ⟨g.toNat, by omega⟩
  have hk : k < 2 ^ M.n := Int.ofNat_lt.mp hg.2
  rw [index_some (by rw [r.wt]; exact hk)] at due
  have e01 := e0.trans e1
  have d1 := DkAt.mono e01 d
  -- want(a >= 0, BELOW)
  refine ⟨_, rfl, _, _, rfl, rfl, ?_⟩
  refine ⟨_, -8, rfl, fun hb => ?_, fun hb => ?_⟩
  case refine_2 =>
    have h0 : a < 0 := by
      have := of_decide_eq_false hb
      omega
    have due2 := due
    have e8 : (some z, (if a < 0 then VamvsBase.one (-8) else readA z k (Vamvsc.readBy z k a.toNat))) = (some z, VamvsBase.one (-8)) := by rw [if_pos h0]
    exact RefW.mono (due2.ref (-8) e8) e01
  have h0 : ¬ a < 0 := by
    have := of_decide_eq_true hb
    omega
  obtain ⟨b, rfl⟩ : ∃ b : Nat, a = (b : Int) := ⟨a.toNat, by omega⟩
  have due1 : Due A D dD (some (q, M)) (some z) (some z, readA z k (Vamvsc.readBy z k b)) H Q E := by
    have e8 : (some z, (if (b : Int) < 0 then VamvsBase.one (-8) else readA z k (Vamvsc.readBy z k (b : Int).toNat))) = (some z, readA z k (Vamvsc.readBy z k b)) := by rw [if_neg h0, Int.toNat_natCast]
    rw [← e8]
    exact due
  -- source = read_from(g, a)
  refine ⟨_, rfl, D, _, _, _, _, rfl, d1.1, T.cl_Desk, T.na_Desk_store, rfl, q.S, _, _, rfl, d1.2.self, rfl, _, rfl, _, rfl, q, M, k, b, rfl, d1.2, hk, fun H2 e2 => ?_⟩
  have e02 := e01.trans e2
  have d2 := DkAt.mono e02 d
  have orel := r.readBy k b
  obtain ⟨src, hsrc⟩ : ∃ src, src = firstMin (someL M k b) := ⟨_, rfl⟩
  obtain ⟨src', hsrc'⟩ : ∃ src', src' = Vamvsc.readBy z k b := ⟨_, rfl⟩
  rw [← hsrc, ← hsrc'] at orel
  rw [← hsrc'] at due1
  rw [← hsrc]
  have hmem : ∀ x, src = some x → x ∈ M.kept ∧ canFrom M.n x.g k = true := fun x hx => by
    rw [hsrc] at hx
    have := List.mem_filter.mp (firstMin_mem hx)
    refine ⟨this.1, ?_⟩
    have h2 := this.2
    rw [Bool.and_eq_true] at h2
    exact h2.1
  obtain ⟨p1, p2, p3, p4⟩ := ans_ok d.2.ok r hk orel hmem
  have w4 : (columnsOf M.n k).length ≤ 4 := Nat.le_trans (cols_len _ _) n4
  have plen := linesV_len p3 w4 (by rw [← p1.length_eq]; exact p4)
  have hfind : ∀ x, src = some x → findK M.kept x.g = some x ∧ canFrom M.n x.g k = true := fun x hx => ⟨findK_of d.2.ok (hmem x hx).1, (hmem x hx).2⟩
  -- found = [1, source, 0, len(rows_now())]
  refine ⟨_, rfl, ?_⟩
  refine ⟨_, rfl, D, _, _, _, _, rfl, d2.1, T.cl_Desk, T.na_Desk_store, rfl, q.S, _, _, rfl, d2.2.self, rfl, q, M, rfl, d2.2, fun h hh n1 n2 => ?_⟩
  obtain ⟨as, h1, h2⟩ := hh
  refine ⟨h, _, rfl, .inl (SqL.of h1), (by show 4 ≤ sizeLine; decide), fun pf hpf => ?_⟩
  rw [List.length_map, pr_len h2]
  have e3 := e02.trans (Same.new (o := .lst [V.int 1, V.int (srcI src), V.int 0, V.int ((nowM M).length : Nat)]) hpf)
  have hpf3 : upd H2 pf (.lst [V.int 1, V.int (srcI src), V.int 0, V.int ((nowM M).length : Nat)]) pf = some (.lst [V.int 1, V.int (srcI src), V.int 0, V.int ((nowM M).length : Nat)]) := upd_same
  generalize upd H2 pf (.lst [V.int 1, V.int (srcI src), V.int 0, V.int ((nowM M).length : Nat)]) = H3 at e3 hpf3 ⊢
  have d3 := DkAt.mono e3 d
  refine ⟨_, rfl, rfl, _, rfl, ?_⟩
  cases orel with
  | none =>
    refine iteF' rfl ?_
    refine ⟨_, rfl, ?_⟩
    refine ⟨_, rfl, D, _, _, _, _, rfl, d3.1, T.cl_Desk, T.na_Desk_store, rfl, q.S, _, _, rfl, d3.2.self, rfl, _, rfl, _, rfl, q, M, none, k, rfl, d3.2, hk, hfind, fun H5 ap e5 hap ha5 => ?_⟩
    refine ⟨ap, _, _, _, rfl, ha5, p2, p1, p3, p4, fun H6 lp e6 hlp hlv => ?_⟩
    have e56 := e5.trans e6
    refine ⟨pf, lp, _, _, rfl, rfl, e56 _ _ hpf3, hlv, sz_le (by show 4 + _ ≤ _; omega), fun p hp => ?_⟩
    have e7 := (e3.trans e56).trans (Same.new (o := .lst ([V.int 1, V.int (-1), V.int 0, V.int ((nowM M).length : Nat)] ++ linesV (ansS z k none))) hp)
    refine due1.ok _ (some (q, M)) p ⟨_, Fr.of (e3.trans e56), hp⟩ (fun _ h => h) (DkAt.mono e7 d) (.some r) (Fr.of e7) (fun b hb => .inl hb) ?_
    rw [upd_same, linesV_eq]
    rw [r.now]
    rfl
  | @some x s kr =>
    have fx := findK_of d.2.ok (hmem x rfl).1
    refine iteT' (by
      show (!decide (V.int (x.g : Int) = V.int (-1))) = true
      rw [decide_eq_false (show ¬ V.int (x.g : Int) = V.int (-1) from fun e => by have := V.int.inj e; omega)]
      rfl) ?_
    refine ⟨_, rfl, ?_⟩
    refine ⟨_, rfl, D, _, _, _, _, rfl, d3.1, T.cl_Desk, T.na_Desk_store, rfl, q.S, _, _, rfl, d3.2.self, rfl, _, rfl, q, M, x, rfl, d3.2, fx, ?_⟩
    refine ⟨_, rfl, D, _, _, _, _, rfl, d3.1, T.cl_Desk, T.na_Desk_store, rfl, q.S, _, _, rfl, d3.2.self, rfl, _, rfl, q.S, q.KD, x.g, x.l, rfl, d3.2.linesAt fx, (by show 4 ≤ sizeLine; decide), fun pf2 hpf2 => ?_⟩
    have e4 := e3.trans (Same.new (o := .lst [V.int 1, V.int (x.g : Int), V.int (ageM M x : Nat), V.int (x.l.length : Nat)]) hpf2)
    have hpf4 : upd H3 pf2 (.lst [V.int 1, V.int (x.g : Int), V.int (ageM M x : Nat), V.int (x.l.length : Nat)]) pf2 = some (.lst [V.int 1, V.int (x.g : Int), V.int (ageM M x : Nat), V.int (x.l.length : Nat)]) := upd_same
    have d4 := DkAt.mono e4 d
    refine ⟨_, rfl, ?_⟩
    refine ⟨_, rfl, D, _, _, _, _, rfl, d4.1, T.cl_Desk, T.na_Desk_store, rfl, q.S, _, _, rfl, d4.2.self, rfl, _, rfl, _, rfl, q, M, (some x), k, rfl, d4.2, hk, hfind, fun H5 ap e5 hap ha5 => ?_⟩
    refine ⟨ap, _, _, _, rfl, ha5, p2, p1, p3, p4, fun H6 lp e6 hlp hlv => ?_⟩
    have e56 := e5.trans e6
    refine ⟨pf2, lp, _, _, rfl, rfl, e56 _ _ hpf4, hlv, sz_le (by show 4 + _ ≤ _; omega), fun p hp => ?_⟩
    have e7 := (e4.trans e56).trans (Same.new (o := .lst ([V.int 1, V.int (x.g : Int), V.int (ageM M x : Nat), V.int (x.l.length : Nat)] ++ linesV (ansS z k (some s)))) hp)
    refine due1.ok _ (some (q, M)) p ⟨_, Fr.of (e4.trans e56), hp⟩ (fun _ h => h) (DkAt.mono e7 d) (.some r) (Fr.of e7) (fun b hb => .inl hb) ?_
    rw [upd_same, linesV_eq]
    rw [r.age kr, lines_eq kr, kr.1]
    rfl
theorem ok_Desk_was (T : Txt K mg A) : Ok P w K mg base (L2.CX P w) 5 A.f_Desk_was P_Desk_was (sp_dwas A) := by
  obtain ⟨fd, F, b⟩ := T.F_Desk_was
  obtain ⟨fd_Desk_want_groupings, b_Desk_want_groupings, G_Desk_want_groupings⟩ := ok_Desk_want_groupings (P := P) (w := w) (base := base) T
  obtain ⟨fd_answer_of, b_answer_of, G_answer_of⟩ := ok_answer_of (P := P) (w := w) (base := base) T
  obtain ⟨fd_lines_told, b_lines_told, G_lines_told⟩ := ok_lines_told (P := P) (w := w) (base := base) T
  obtain ⟨fd_want, b_want, G_want⟩ := ok_want (P := P) (w := w) (base := base) T
  refine ⟨fd, b, F.okX sc_Desk_was (fun vs H Q E h => by
    obtain ⟨D, dD, q, M, z, n, g, rfl, _⟩ := h
    rfl) (fun cdv Ar outer s H vs Q E hr h => ?_)⟩
  refine ⟨_, (pss_cons (ps_expr (pe_call G_want (hr.mono (by decide)) rfl T.g_want T.k_want b_want .nil (passes_call (takes_of rfl rfl rfl rfl) (fun _ _ _ _ h => h)) (pa_cons (pe_chain op_le op_le pe_int (pv 1) (pe_callB call_len_seq (by rfl) T.n_len (by decide +kernel) (pa_cons (pe_fld (pe_fld (pv 0) rfl) rfl) pa_nil))) (pa_cons (pe_cI T.c_NOT_SO_MANY) pa_nil))))
    (pss_cons (ps_expr (pe_meth (pv 0) T.cl_Desk T.m_Desk_want_groupings G_Desk_want_groupings (hr.mono (by decide)) b_Desk_want_groupings .nil (passes_call (takes_of rfl rfl rfl rfl) (fun _ _ _ _ h => h)) (pa_cons (pe_lst (pa_cons (pv 2) pa_nil)) pa_nil)))
    (pss_one (ps_ret (pe_op op_cat (pe_lst (pa_cons pe_int pa_nil)) (pe_call G_lines_told (hr.mono (by decide)) rfl T.g_lines_told T.k_lines_told b_lines_told .nil pass0 (pa_cons (pe_call G_answer_of (hr.mono (by decide)) rfl T.g_answer_of T.k_answer_of b_answer_of .nil pass0 (pa_cons (pe_ix ix_list (pe_fld (pe_fld (pv 0) rfl) rfl) (pv 1) (fun _ _ => rfl)) (pa_cons (pv 2) pa_nil))) pa_nil))))))), ?_⟩
  obtain ⟨D, dD, q, M, z, n, g, rfl, d, r, due⟩ := h
  have n4 := d.2.ok.n4
  have ech := r.chl
  rw [was_step] at due
  have bad : ¬ (0 ≤ n ∧ n < ((z.log.length + 1 : Nat) : Int)) → RefW A (-9) H E := fun hb => by
    have due2 := due
    rw [index_no hb] at due2
    exact due2.ref (-9) rfl
  refine ⟨_, rfl, _, _, rfl, rfl, _, rfl, ?_⟩
  by_cases c1 : 0 ≤ n
  case neg =>
    refine iteF' (decide_eq_false c1) ?_
    exact ⟨false, -9, rfl, (fun e => nomatch e), fun _ => bad fun y => c1 y.1⟩
  refine iteT' (decide_eq_true c1) ?_
  obtain ⟨cs, hc1, hc2⟩ := d.2.chs
  refine ⟨_, rfl, D, _, _, _, _, rfl, d.1, T.cl_Desk, T.na_Desk_store, rfl, q.S, _, _, _, _, rfl, d.2.self, T.cl_Store, T.na_Store_changes, rfl, q.CL, _, rfl, .inl (SqL.of hc1), _, _, rfl, rfl, ?_⟩
  rw [List.length_map, pr_len hc2]
  refine ⟨_, -9, rfl, fun hb => ?_, fun hb => bad fun y => of_decide_eq_false hb (by rw [ech]; omega)⟩
  have c2 := of_decide_eq_true hb
  obtain ⟨i, rfl⟩ : ∃ i : Nat, n = (i : Int) := ⟨n.toNat, by omega⟩
  have ile : i ≤ z.log.length := by rw [← ech]; omega
  rw [index_some (by omega)] at due
  -- want_groupings([g])
  refine ⟨_, rfl, D, _, _, rfl, d.1, rfl, _, rfl, (by show 1 ≤ sizeLine; decide), fun gl hgl => ?_⟩
  have e0 := Same.new (o := .lst [V.int g]) hgl
  refine ⟨D, dD, gl, q, M, [g], rfl, DkAt.mono e0 d, upd_same, (by show 1 ≤ 4000; decide), fun hall H1 e1 => ?_, fun hbad => ?_⟩
  case refine_2 =>
    have due2 := due
    have e8 : (some z, (match VamvsBase.index g (2 ^ width z.t) with
      | none => VamvsBase.one (-2)
      | some x => (⟨1, Vamvsc.lines (groupsOf (replay z i) x)⟩ : VamvsBase.Answer))) = (some z, VamvsBase.one (-2)) := by rw [index_no (by rw [r.wt]; exact one_bad hbad)]
    exact RefW.mono (due2.ref (-2) e8) e0
  have hg := one_ok.mp hall
  obtain ⟨k, rfl⟩ : ∃ k : Nat, g = (k : Int) := ⟨g.toNat, by omega⟩
  have hk : k < 2 ^ M.n := Int.ofNat_lt.mp hg.2
  have due1 : Due A D dD (some (q, M)) (some z) (some z, ⟨1, Vamvsc.lines (groupsOf (replay z i) k)⟩) H Q E := by
    have e8 : (some z, (match VamvsBase.index (k : Int) (2 ^ width z.t) with
      | none => VamvsBase.one (-2)
      | some x => (⟨1, Vamvsc.lines (groupsOf (replay z i) x)⟩ : VamvsBase.Answer))) = (some z, ⟨1, Vamvsc.lines (groupsOf (replay z i) k)⟩) := by rw [index_some (by rw [r.wt]; exact hk)]
    rw [← e8]
    exact due
  have e01 := e0.trans e1
  refine ⟨(by show 1 ≤ sizeLine; decide), fun p1 hp1 => ?_⟩
  have e2 := e01.trans (Same.new (o := .lst [V.int 1]) hp1)
  have hp12 : upd H1 p1 (.lst [V.int 1]) p1 = some (.lst [V.int 1]) := upd_same
  generalize upd H1 p1 (.lst [V.int 1]) = H2 at e2 hp12 ⊢
  have d2 := DkAt.mono e2 d
  obtain ⟨hs, hS1, hS2, -⟩ := d2.2.hist
  obtain ⟨hh, hhs, hrows⟩ := pr_at hS2 (r.histAt ile)
  have hat : (hs.map V.ref)[i]? = some (V.ref hh) := by rw [List.getElem?_map, hhs]; rfl
  obtain ⟨ro1, ro2⟩ := r.rows16 d.2.ok ile
  refine ⟨_, rfl, D, _, _, _, _, rfl, d2.1, T.cl_Desk, T.na_Desk_store, rfl, q.S, _, _, _, _, rfl, d2.2.self, T.cl_Store, T.na_Store_history, rfl, ?_⟩
  refine ⟨_, rfl, q.HL, _, _, _, rfl, rfl, SqL.of hS1, at_of rfl hat, _, rfl, ?_⟩
  refine ⟨hh, _, k, M.n, rfl, hrows, ro2, by omega, n4, hk, fun H3 al e3 hal ha3 => ?_⟩
  have w4 : (columnsOf M.n k).length ≤ 4 := Nat.le_trans (cols_len _ _) n4
  obtain ⟨kok, klen⟩ := ansL_ok (g := k) n4 (replay z i).rows [] (KOk.nil w4) ro2
  have klen2 : (ansL M.n k (replay z i).rows).length ≤ 0 + (replay z i).rows.length := klen
  have psl := groups_SL (replay z i) k
  rw [replay_width, r.n] at psl
  have pp := r.ans i k
  have plen := linesV_len psl w4 (by rw [← pp.length_eq]; omega)
  refine ⟨al, _, groupsOf (replay z i) k, (columnsOf M.n k).length, rfl, ha3, kok, pp, psl, by omega, fun H4 lp e4 hlp hlv => ?_⟩
  have e24 := e3.trans e4
  refine ⟨p1, lp, _, _, rfl, rfl, e24 _ _ hp12, hlv, sz_le (by show 1 + _ ≤ _; omega), fun p hp => ?_⟩
  have e5 := (e2.trans e24).trans (Same.new (o := .lst ([V.int 1] ++ linesV (groupsOf (replay z i) k))) hp)
  refine due1.ok _ (some (q, M)) p ⟨_, Fr.of (e2.trans e24), hp⟩ (fun _ h => h) (DkAt.mono e5 d) (.some r) (Fr.of e5) (fun b hb => .inl hb) ?_
  rw [upd_same, linesV_eq]
  rfl
theorem ok_Desk_together (T : Txt K mg A) : Ok P w K mg base CX0 5 A.f_Desk_together P_Desk_together (sp_dtogether A) := by
  obtain ⟨fd, F, b⟩ := T.F_Desk_together
  obtain ⟨fd_Store_cheapest, b_Store_cheapest, G_Store_cheapest⟩ := ok_Store_cheapest (P := P) (w := w) (base := base) T
  refine ⟨fd, b, F.ok sc_Desk_together (fun vs H Q E h => by
    obtain ⟨D, dD, q, M, z, rfl, _⟩ := h
    rfl) (fun cdv Ar outer s H vs Q E hr h => ?_)⟩
  refine ⟨_, (pss_cons (ps_set (i := 1) sc_Desk_together.nd rfl (by first | exact Or.inl rfl | exact Or.inr rfl) pe_int)
    (pss_cons (ps_set (i := 2) sc_Desk_together.nd rfl (by first | exact Or.inl rfl | exact Or.inr rfl) (pe_lst pa_nil))
    (pss_cons (ps_for PassesOwn.never rfl (pi_list (pe_callB (call_sortedDI rfl) (by rfl) T.n_sorted (by decide +kernel) (pa_cons (pe_fld (pe_fld (pv 0) rfl) rfl) pa_nil))) (pg_name (i := 3) sc_Desk_together.nd rfl (by first | exact Or.inl rfl | exact Or.inr rfl)) (pss_cons (ps_asg (pe_meth (pe_fld (pv 0) rfl) T.cl_Store T.m_Store_cheapest G_Store_cheapest (hr.mono (by decide)) b_Store_cheapest .nil pass0 (pa_cons (pv 3) pa_nil)) (pg_tup rfl (pgs_cons (pg_name (i := 4) sc_Desk_together.nd rfl (by first | exact Or.inl rfl | exact Or.inr rfl)) (pgs_cons (pg_name (i := 5) sc_Desk_together.nd rfl (by first | exact Or.inl rfl | exact Or.inr rfl)) pgs_nil))))
    (pss_cons (ps_set (i := 1) sc_Desk_together.nd rfl (by first | exact Or.inl rfl | exact Or.inr rfl) (pe_op op_add (pv 1) (pv 5)))
    (pss_one (ps_expr (pe_bm PySem.F.plainAttrs_list PySem.F.slot_list_extend PySem.F.type_list_extend mt_extend (pv 2) (pa_cons (pe_lst (pa_cons (pv 3) (pa_cons (pv 4) (pa_cons (pv 5) pa_nil)))) pa_nil)))))))
    (pss_one (ps_ret (pe_op op_cat (pe_lst (pa_cons (pv 1) (pa_cons (pe_callB call_lenD (by rfl) T.n_len (by decide +kernel) (pa_cons (pe_fld (pe_fld (pv 0) rfl) rfl) pa_nil)) pa_nil))) (pv 2))))))), ?_⟩
  obtain ⟨D, dD, q, M, z, rfl, d, r, k⟩ := h
  have k16 := d.2.ok.k16
  refine ⟨(by show 0 ≤ sizeLine; decide), fun pf hpf => ?_⟩
  have e1 := Same.new (o := .lst []) hpf
  have hpf1 : upd H pf (.lst []) pf = some (.lst []) := upd_same
  generalize upd H pf (.lst []) = H1 at e1 hpf1 ⊢
  have d1 := DkAt.mono e1 d
  obtain ⟨kvs1, hk11, hk12⟩ := d1.2.kept
  refine ⟨_, rfl, D, _, _, _, _, rfl, d1.1, T.cl_Desk, T.na_Desk_store, rfl, q.S, _, _, _, _, rfl, d1.2.self, T.cl_Store, T.na_Store_kept, rfl, q.KD, kvs1, _, rfl, .inl hk11, kept_keys hk12, by rw [List.length_map]; omega, fun ys p hperm hpair hp => ?_⟩
  rw [kept_ints d.2.ok hperm hpair, List.map_map]
  have e2 := e1.trans (Same.new (o := .lst (M.kept.map (V.int ∘ fun x => (x.g : Int)))) hp)
  have npf : p ≠ pf := Ne.symm (ne_of_none hpf1 hp)
  have flen : ∀ l : List KI, (l.flatMap fun x => [V.int (x.g : Int), V.int (srcI (cheapM M x).1), V.int ((cheapM M x).2 : Nat)]).length = 3 * l.length := by
    intro l
    induction l with
    | nil => rfl
    | cons a l ih =>
      rw [List.flatMap_cons, List.length_append, ih]
      simp only [List.length_cons, List.length_nil]
      omega
  refine ⟨p, rfl, ⟨_, SqL.of upd_same⟩, for_list (K := K) (a := p) (xs := M.kept.map (V.int ∘ fun x => (x.g : Int)))
    (fun i σ H' => ∃ v3 v4 v5 : Option V, σ = [some (.ref D), some (.int (((M.kept.take i).map fun x => (cheapM M x).2).sum : Nat)), some (.ref pf), v3, v4, v5] ∧ Same H H' ∧ H' p = some (.lst (M.kept.map (V.int ∘ fun x => (x.g : Int)))) ∧
      H' pf = some (.lst ((M.kept.take i).flatMap fun x => [V.int (x.g : Int), V.int (srcI (cheapM M x).1), V.int ((cheapM M x).2 : Nat)])))
    ⟨none, none, none, rfl, e2, upd_same, by rw [upd_ne (Ne.symm npf), hpf1]; rfl⟩ (fun i σ H' _ ⟨_, _, _, _, _, h, _⟩ => SqL.of h) ?_ ?_⟩
  · rintro i y σ H' hi ⟨v3, v4, v5, rfl, e3, hp3, hf3⟩
    obtain ⟨x, hx, rfl⟩ := map_at hi
    have fx := findK_of d.2.ok (List.mem_of_getElem? hx)
    have ilt : i < M.kept.length := (List.getElem?_eq_some_iff.mp hx).1
    have d3 := DkAt.mono e3 d
    refine ⟨_, rfl, D, _, _, _, _, rfl, d3.1, T.cl_Desk, T.na_Desk_store, rfl, q.S, _, _, rfl, d3.2.self, rfl, _, rfl, q, M, x, rfl, d3.2, fx, fun H4 t e4 ht => ?_⟩
    refine ⟨t, _, rfl, SqT.of ht, rfl, _, _, rfl, _, _, rfl, rfl, ?_⟩
    refine ⟨_, rfl, _, rfl, _, _, rfl, rfl, ?_⟩
    have hf4 := e4 _ _ hf3
    refine ⟨_, rfl, .inl ⟨rfl, _, SqL.of hf4⟩, ?_⟩
    refine ⟨_, rfl, _, rfl, _, rfl, (by show 3 ≤ sizeLine; decide), fun u hu => ?_⟩
    have e5 := Same.new (o := .lst [V.int (x.g : Int), V.int (srcI (cheapM M x).1), V.int ((cheapM M x).2 : Nat)]) hu
    refine ⟨pf, u, _, _, rfl, rfl, e5 _ _ hf4, upd_same, sz_le ?_, ?_⟩
    · rw [flen, List.length_take]
      show _ + 3 ≤ _
      omega
    · refine ⟨some (V.int (x.g : Int)), some (V.int (srcI (cheapM M x).1)), some (V.int ((cheapM M x).2 : Nat)), ?_, Same.mut ((e3.trans e4).trans e5) hpf, by rw [upd_ne npf]; exact e5 _ _ (e4 _ _ hp3), ?_⟩
      · have es : ((((M.kept.take (i + 1)).map fun x => (cheapM M x).2).sum : Nat) : Int) = ((((M.kept.take i).map fun x => (cheapM M x).2).sum : Nat) : Int) + ((cheapM M x).2 : Nat) := by
          rw [take_snoc hx, List.map_append, List.sum_append]
          simp
        rw [es]
        rfl
      · rw [upd_same, take_snoc hx, List.flatMap_append]
        rfl
  · rintro σ H' ⟨v3, v4, v5, rfl, e3, hp3, hf3⟩
    rw [List.length_map, List.take_length] at hf3
    have d3 := DkAt.mono e3 d
    obtain ⟨kvs3, hk31, hk32⟩ := d3.2.kept
    refine ⟨_, rfl, _, rfl, D, _, _, _, _, rfl, d3.1, T.cl_Desk, T.na_Desk_store, rfl, q.S, _, _, _, _, rfl, d3.2.self, T.cl_Store, T.na_Store_kept, rfl, q.KD, kvs3, rfl, hk31, (by show 2 ≤ sizeLine; decide), fun p1 hp1 => ?_⟩
    have e4 := Same.new (o := .lst [V.int (((M.kept.map fun x => (cheapM M x).2).sum : Nat) : Int), V.int (kvs3.length : Nat)]) hp1
    rw [List.length_map, List.take_length]
    refine ⟨_, rfl, p1, pf, _, _, rfl, rfl, upd_same, e4 _ _ hf3, sz_le (by rw [flen]; show 2 + _ ≤ _; omega), fun p2 hp2 => ?_⟩
    refine k _ p2 ((e3.trans e4).trans (Same.new hp2)) ((e3.trans e4).free hp2) ?_
    rw [upd_same, pr_len hk32]
    show some (HO.lst (V.int _ :: V.int _ :: _)) = some (HO.lst (((((z.kept.map fun s => (s, Vamvsc.source z s)).map fun x => (x.2.2 : Int)).sum) :: ((z.kept.map fun s => (s, Vamvsc.source z s)).length : Int) :: (z.kept.map fun s => (s, Vamvsc.source z s)).flatMap fun x => [(x.1.g : Int), match x.2.1 with
      | none => -1
      | some y => (y.g : Int), (x.2.2 : Int)]).map V.int))
    have aux : ∀ {l : List KI} {m : List SStore}, Paired (KRel z) l m → (∀ x ∈ l, x.made ≤ M.chs.length) → ((l.map fun x => ((cheapM M x).2 : Int)) = (m.map fun s => (s, Vamvsc.source z s)).map fun x => (x.2.2 : Int)) ∧
        ((l.flatMap fun x => [V.int (x.g : Int), V.int (srcI (cheapM M x).1), V.int ((cheapM M x).2 : Nat)]) = ((m.map fun s => (s, Vamvsc.source z s)).flatMap fun x => [(x.1.g : Int), match x.2.1 with
      | none => -1
      | some y => (y.g : Int), (x.2.2 : Int)]).map V.int) := by
      intro l m h
      induction h with
      | nil => exact fun _ => ⟨rfl, rfl⟩
      | @cons x s xs ss hk t ih =>
        intro hm
        obtain ⟨i1, i2⟩ := ih fun y hy => hm y (List.mem_cons_of_mem _ hy)
        obtain ⟨o1, o2⟩ := r.source hk (hm x List.mem_cons_self)
        refine ⟨?_, ?_⟩
        · rw [List.map_cons, List.map_cons, List.map_cons, i1, o2]
        · rw [List.flatMap_cons, List.map_cons, List.flatMap_cons, List.map_append, i2]
          congr 1
          show [V.int (x.g : Int), V.int (srcI (cheapM M x).1), V.int ((cheapM M x).2 : Nat)] = [V.int (s.g : Int), V.int (match (Vamvsc.source z s).1 with
            | none => -1
            | some y => (y.g : Int)), V.int ((Vamvsc.source z s).2 : Nat)]
          rw [o2, hk.1]
          have : srcI (cheapM M x).1 = (match (Vamvsc.source z s).1 with
            | none => -1
            | some y => (y.g : Int)) := by
            revert o1
            generalize (cheapM M x).1 = A1
            generalize (Vamvsc.source z s).1 = B1
            intro o1
            cases o1 with
            | none => rfl
            | some h => exact congrArg (fun n : Nat => (n : Int)) h.1
          rw [this]
    obtain ⟨a1, a2⟩ := aux r.kept fun x hx => (d.2.ok.kg x hx).2.2.2
    have cs : ∀ l : List KI, (((l.map fun x => (cheapM M x).2).sum : Nat) : Int) = (l.map fun x => ((cheapM M x).2 : Int)).sum := by
      intro l
      induction l with
      | nil => rfl
      | cons a l ih => rw [List.map_cons, List.map_cons, List.sum_cons, List.sum_cons, ← ih]; rfl
    rw [List.map_cons, List.map_cons, ← a1, ← a2, List.length_map, ← pr_len r.kept, cs]
    rfl
end
end KR
end
section
set_option maxRecDepth 100000
/-! Rules of one's own: a method call inside a try. -/
namespace KR
open PySem PySem.Spec PyProof.Rows L2
section
variable {X : Cx} {CX : CXT} {lv : Nat} {g Cc : Addr} {fdd : FuncData} {prms : List Str} {prom : Sp} {W : L2.St → XK}
variable {meth : Str} {cpos mpos : Pos} {arg rcv : Expr} {argz : List Expr} {tr : TE} {tz : TA}
/-- o.m(..), what is wanted of an exception by the state -/
def tMethT (Cc : Addr) (meth : Str) (prom : Sp) (W : L2.St → XK) (tr : TE) (tz : TA) : TE := fun σ H Q => tr σ H fun v H1 =>
  ∃ ia id ifs, v = .ref ia ∧ H1 ia = some (.ins Cc id ifs) ∧ ifs.lookup meth = none ∧ tz σ H1 fun ws H2 => prom (v :: ws) H2 Q (W σ)
theorem pe_methT {pl : Sem Bool} (hr1 : PE X rcv tr) (hc : Cls X.K Cc) (hm : Meth X.K Cc meth g) (G : FnOk X.prog X.w X.K X.mg X.base CX lv g fdd prms prom) (rm : Room lv X.A) (hb : Binds X.K fdd prms [])
    (hp : ∀ σ, PassesAt CX X σ (W σ)) (hz : PA X (arg :: argz) tz)
    (s1 : starEach (arg :: argz) X.env = (false, eval arg X.env) :: starEach argz X.env := by rfl)
    (s2 : (backTo cpos (starEach argz X.env)).any (·.1) = false := by rfl)
    (s3 : eval (.Call (.Attribute rcv meth mpos) (arg :: argz) [] cpos) X.env = (do
      let obj ← eval rcv X.env
      standAt mpos.atName
      let (fn, hd) ← holding [obj] (getMethod obj meth pl)
      callWith cpos fn hd (backTo cpos (starEach (arg :: argz) X.env)) (backToKw cpos (keywordEach [] X.env))) := by rfl) :
    PE X (.Call (.Attribute rcv meth mpos) (arg :: argz) [] cpos) (tMethT Cc meth prom W tr tz) := by
  constructor
  intro pins s σ H Q I want
  apply PySem.W.methodCall_KW (pl := pl) _ s3
  apply thn (hr1.run pins s σ H _ I want)
  rintro u sa ⟨v, H1, Ia, rv, ia, id, ifs, ev, hia, hno, rest⟩
  subst ev
  have eu : u = Value.ref ia := rv
  subst eu
  apply getmeth_ok Ia hia hc hm hno
  have args := hz.run cpos pins sa σ H1 _ Ia rest
  apply PySem.W.callWith_K (first := [.ref ia]) (h₀ := X.base) I.ok.mod.kin hm.kp _ s1 s2
  apply thn args
  rintro us sb ⟨ws, H2, Ib, rws, fin⟩
  refine ⟨Ib.kIn, ?_⟩
  have all : Vals (.ref ia :: ws) (.ref ia :: us) := .cons rfl rws
  exact run_fnS G rm hb (hp σ) Ib all fin
end
end KR
end
section
set_option maxRecDepth 100000
set_option maxHeartbeats 4000000
/-! tables: asked, answer. -/
namespace KR
open PySem PySem.Spec PyProof.Rows L2
open Vamvsa (Group columnsOf canFrom groupsOf width rolled)
open Vamvsc (Held Change done replay)
def ListAt (H : Hp) (a : Addr) (l : List Int) : Prop := H a = some (.lst (l.map V.int))
inductive CallIs : Nat → List Int → List (List Int) → Vamvsc.Call → Prop
  | keep {l : List Int} : l.length ≤ 4000 → CallIs 1 [] [l] (.keep l)
  | put {m : Int} {l : List Int} : l.length ≤ 4000 → CallIs 2 [m] [l] (.put m l)
  | take {i : Int} : CallIs 3 [i] [] (.take i)
  | refresh {g : Int} : CallIs 4 [g] [] (.refresh g)
  | ages : CallIs 5 [] [] .ages
  | read {g a : Int} : CallIs 6 [g, a] [] (.read_ g a)
  | together : CallIs 7 [] [] .together
  | was {n g : Int} : CallIs 8 [n, g] [] (.was n g)
theorem step_none {cn : Nat} {ns : List Int} {rows : List (List Int)} {k : Vamvsc.Call} (h : CallIs cn ns rows k) : Vamvsc.step none k = (none, VamvsBase.one (-1)) := by
  cases h <;> rfl
def sp_dasked (A : Ads) : Sp := fun vs H Q E => ∃ (D dD nl rl : Addr) (w : DSt) (o : Option Held) (k : Vamvsc.Call) (cn : Nat) (ns : List Int) (ras : List Addr) (rows : List (List Int)), vs = [.ref D, .int (cn : Int), .ref nl, .ref rl] ∧
  DkAt A D dD w H ∧ RelO w o ∧ ListAt H nl ns ∧ H rl = some (.lst (ras.map V.ref)) ∧ Paired (ListAt H) ras rows ∧ CallIs cn ns rows k ∧ Due A D dD w o (Vamvsc.step o k) H Q E
def sp_danswer (A : Ads) : Sp := fun vs H Q _ => ∃ (D dD nl rl X : Addr) (xs : List V) (w : DSt) (o : Option Held) (cn : Nat) (ns : List Int) (ras : List Addr) (rows : List (List Int)), vs = [.ref D, .int (cn : Int), .ref nl, .ref rl] ∧
  H X = some (.lst xs) ∧ XIs X w ∧ DkAt A D dD w H ∧ RelO w o ∧ ListAt H nl ns ∧ H rl = some (.lst (ras.map V.ref)) ∧ Paired (ListAt H) ras rows ∧ VamvscNeutral.asked1 (((cn : Int) :: ns) :: rows) = true ∧
  ∀ H' w' p, (∃ Hl, Fr (foot D w) H Hl ∧ Hl p = none) → XIs X w' → DkAt A D dD w' H' → RelO w' (VamvscNeutral.step o (((cn : Int) :: ns) :: rows)).1 → Fr (foot D w) H H' → (∀ b ∈ foot D w', b ∈ foot D w ∨ H b = none) → H' p = some (.lst ((VamvscNeutral.step o (((cn : Int) :: ns) :: rows)).2.map V.int)) → Q (.ref p) H'
/-- what is asked, read -/
inductive Ask1 : Nat → List Int → List (List Int) → Prop
  | load {l : List UInt8} {b : List Int} : b.map V.int = l.map byV → VamvscNeutral.callOf [[0], b] = some (.load l) → Ask1 0 [] [b]
  | other {cn : Nat} {ns : List Int} {rows : List (List Int)} {k : Vamvsc.Call} : CallIs cn ns rows k → VamvscNeutral.callOf (((cn : Int) :: ns) :: rows) = some k → Ask1 cn ns rows
theorem bytes_ok {b : List Int} (h : (b.all fun z : Int => VamvscNeutral.natural z 8) = true) : b.map V.int = (VamvscNeutral.bytesOf b).map byV ∧ NeutralIO.bytes b = true := by
  unfold VamvscNeutral.bytesOf NeutralIO.bytes
  rw [List.map_map]
  have h2 : ∀ z ∈ b, 0 ≤ z ∧ z < 256 := fun z hz => by
    have := List.all_eq_true.mp h z hz
    unfold VamvscNeutral.natural at this
    rw [Bool.and_eq_true, decide_eq_true_iff, decide_eq_true_iff] at this
    exact this
  refine ⟨List.map_congr_left fun z hz => ?_, List.all_eq_true.mpr fun z hz => ?_⟩
  · have := h2 z hz
    show V.int z = V.int (((UInt8.ofNat z.toNat).toNat : Nat) : Int)
    rw [UInt8.toNat_ofNat_of_lt' (by show z.toNat < 256; omega), Int.toNat_of_nonneg this.1]
  · have := h2 z hz
    rw [Bool.and_eq_true, decide_eq_true_iff, decide_eq_true_iff]
    omega
theorem ask1_of {cn : Nat} {ns : List Int} {rows : List (List Int)} (h : VamvscNeutral.asked1 (((cn : Int) :: ns) :: rows) = true) : Ask1 cn ns rows := by
  have split9 : ∀ p : Int, p = (cn : Int) → VamvscNeutral.asked1 ((p :: ns) :: rows) = true → Ask1 cn ns rows := by
    intro p hp h
    unfold VamvscNeutral.asked1 at h
    split at h
    · rename_i b heq
      cases heq
      have : cn = 0 := by omega
      subst this
      have h2 : ((b.all fun z : Int => VamvscNeutral.natural z 8) && decide (b.length ≤ 8192)) = true := h
      rw [Bool.and_eq_true] at h2
      obtain ⟨b1, b2⟩ := bytes_ok h2.1
      exact .load b1 (if_pos b2)
    · rename_i l heq
      cases heq
      have : cn = 1 := by omega
      subst this
      have h2 : (l.all VamvscNeutral.whole60 && decide (l.length ≤ 2000)) = true := h
      rw [Bool.and_eq_true] at h2
      exact .other (.keep (by have := of_decide_eq_true h2.2; omega)) rfl
    · rename_i m l heq
      cases heq
      have : cn = 2 := by omega
      subst this
      have h2 : (VamvscNeutral.whole60 m && (l.all VamvscNeutral.whole60 && decide (l.length ≤ 2000))) = true := h
      rw [Bool.and_eq_true, Bool.and_eq_true] at h2
      exact .other (.put (by have := of_decide_eq_true h2.2.2; omega)) rfl
    · rename_i i heq
      cases heq
      have : cn = 3 := by omega
      subst this
      exact .other .take rfl
    · rename_i i heq
      cases heq
      have : cn = 4 := by omega
      subst this
      exact .other .refresh rfl
    · rename_i heq
      cases heq
      have : cn = 5 := by omega
      subst this
      exact .other .ages rfl
    · rename_i g a heq
      cases heq
      have : cn = 6 := by omega
      subst this
      exact .other .read rfl
    · rename_i heq
      cases heq
      have : cn = 7 := by omega
      subst this
      exact .other .together rfl
    · rename_i n g heq
      cases heq
      have : cn = 8 := by omega
      subst this
      exact .other .was rfl
    · cases h
  exact split9 _ rfl h
section
variable {P : Program} {w : World} {K : PySem.W.Frag} {mg : Str → Option Value} {base : Heap} {A : Ads}
theorem ok_Desk_asked (T : Txt K mg A) : Ok P w K mg base (L2.CX P w) 6 A.f_Desk_asked P_Desk_asked (sp_dasked A) := by
  obtain ⟨fd, F, b⟩ := T.F_Desk_asked
  obtain ⟨fd_Desk_ages, b_Desk_ages, G_Desk_ages⟩ := ok_Desk_ages (P := P) (w := w) (base := base) T
  obtain ⟨fd_Desk_keep, b_Desk_keep, G_Desk_keep⟩ := ok_Desk_keep (P := P) (w := w) (base := base) T
  obtain ⟨fd_Desk_put, b_Desk_put, G_Desk_put⟩ := ok_Desk_put (P := P) (w := w) (base := base) T
  obtain ⟨fd_Desk_read, b_Desk_read, G_Desk_read⟩ := ok_Desk_read (P := P) (w := w) (base := base) T
  obtain ⟨fd_Desk_refresh, b_Desk_refresh, G_Desk_refresh⟩ := ok_Desk_refresh (P := P) (w := w) (base := base) T
  obtain ⟨fd_Desk_take, b_Desk_take, G_Desk_take⟩ := ok_Desk_take (P := P) (w := w) (base := base) T
  obtain ⟨fd_Desk_together, b_Desk_together, G_Desk_together⟩ := ok_Desk_together (P := P) (w := w) (base := base) T
  obtain ⟨fd_Desk_was, b_Desk_was, G_Desk_was⟩ := ok_Desk_was (P := P) (w := w) (base := base) T
  obtain ⟨fd_want, b_want, G_want⟩ := ok_want (P := P) (w := w) (base := base) T
  refine ⟨fd, b, F.okX sc_Desk_asked (fun vs H Q E h => by
    obtain ⟨D, dD, nl, rl, w', o, k, cn, ns, ras, rows, rfl, _⟩ := h
    rfl) (fun cdv Ar outer s H vs Q E hr h => ?_)⟩
  refine ⟨_, (pss_cons (ps_expr (pe_call G_want (hr.mono (by decide)) rfl T.g_want T.k_want b_want .nil (passes_call (takes_of rfl rfl rfl rfl) (fun _ _ _ _ h => h)) (pa_cons (pe_cmpR op_notN (pe_fld (pv 0) rfl) pe_non (nomark _)) (pa_cons (pe_cI T.c_NO_TABLE) pa_nil))))
    (pss_cons (ps_if (pt_cmpR op_eq (pv 1) pe_int (nomark _)) (pss_one (ps_ret (pe_meth (pv 0) T.cl_Desk T.m_Desk_keep G_Desk_keep (hr.mono (by decide)) b_Desk_keep .nil (passes_call (takes_of rfl rfl rfl rfl) (fun _ _ _ _ h => h)) (pa_cons (pe_ix ix_list (pv 3) pe_int (fun _ _ => rfl)) pa_nil)))) pss_nil)
    (pss_cons (ps_if (pt_cmpR op_eq (pv 1) pe_int (nomark _)) (pss_one (ps_ret (pe_meth (pv 0) T.cl_Desk T.m_Desk_put G_Desk_put (hr.mono (by decide)) b_Desk_put .nil (passes_call (takes_of rfl rfl rfl rfl) (fun _ _ _ _ h => h)) (pa_cons (pe_ix ix_list (pv 2) pe_int (fun _ _ => rfl)) (pa_cons (pe_ix ix_list (pv 3) pe_int (fun _ _ => rfl)) pa_nil))))) pss_nil)
    (pss_cons (ps_if (pt_cmpR op_eq (pv 1) pe_int (nomark _)) (pss_one (ps_ret (pe_meth (pv 0) T.cl_Desk T.m_Desk_take G_Desk_take (hr.mono (by decide)) b_Desk_take .nil (passes_call (takes_of rfl rfl rfl rfl) (fun _ _ _ _ h => h)) (pa_cons (pe_ix ix_list (pv 2) pe_int (fun _ _ => rfl)) pa_nil)))) pss_nil)
    (pss_cons (ps_if (pt_cmpR op_eq (pv 1) pe_int (nomark _)) (pss_one (ps_ret (pe_meth (pv 0) T.cl_Desk T.m_Desk_refresh G_Desk_refresh (hr.mono (by decide)) b_Desk_refresh .nil (passes_call (takes_of rfl rfl rfl rfl) (fun _ _ _ _ h => h)) (pa_cons (pe_ix ix_list (pv 2) pe_int (fun _ _ => rfl)) pa_nil)))) pss_nil)
    (pss_cons (ps_if (pt_cmpR op_eq (pv 1) pe_int (nomark _)) (pss_one (ps_ret (pe_meth0 (pv 0) T.cl_Desk T.m_Desk_ages G_Desk_ages (hr.mono (by decide)) b_Desk_ages .nil pass0))) pss_nil)
    (pss_cons (ps_if (pt_cmpR op_eq (pv 1) pe_int (nomark _)) (pss_one (ps_ret (pe_meth (pv 0) T.cl_Desk T.m_Desk_read G_Desk_read (hr.mono (by decide)) b_Desk_read .nil (passes_call (takes_of rfl rfl rfl rfl) (fun _ _ _ _ h => h)) (pa_cons (pe_ix ix_list (pv 2) pe_int (fun _ _ => rfl)) (pa_cons (pe_ix ix_list (pv 2) pe_int (fun _ _ => rfl)) pa_nil))))) pss_nil)
    (pss_one (ps_ret (pe_ifExp (pt_cmpR op_eq (pv 1) pe_int (nomark _)) (pe_meth0 (pv 0) T.cl_Desk T.m_Desk_together G_Desk_together (hr.mono (by decide)) b_Desk_together .nil pass0) (pe_meth (pv 0) T.cl_Desk T.m_Desk_was G_Desk_was (hr.mono (by decide)) b_Desk_was .nil (passes_call (takes_of rfl rfl rfl rfl) (fun _ _ _ _ h => h)) (pa_cons (pe_ix ix_list (pv 2) pe_int (fun _ _ => rfl)) (pa_cons (pe_ix ix_list (pv 2) pe_int (fun _ _ => rfl)) pa_nil))))))))))))), ?_⟩
  obtain ⟨D, dD, nl, rl, w', o, k, cn, ns, ras, rows, rfl, d, ro, hnl, hrl, pr, ci, due⟩ := h
  cases ro with
  | none =>
    have d0 : H D = some (.ins A.c_Desk dD [("store", .non)]) := d
    refine ⟨_, rfl, D, _, _, _, _, rfl, d0, T.cl_Desk, T.na_Desk_store, rfl, ?_⟩
    exact ⟨rfl, false, -1, rfl, (fun e => nomatch e), fun _ => due.ref (-1) (step_none ci)⟩
  | @some q M z r =>
    refine ⟨_, rfl, D, _, _, _, _, rfl, d.1, T.cl_Desk, T.na_Desk_store, rfl, ?_⟩
    refine ⟨rfl, true, -1, rfl, fun _ => ?_, fun e => nomatch e⟩
    have same_ok : ∀ a : VamvsBase.Answer, Vamvsc.step (some z) k = (some z, a) → ∀ H' p, Same H H' → H p = none → H' p = some (.lst ((VamvscNeutral.encode a).map V.int)) → Q (.ref p) H' := fun a ha H' p e hn hp => by
      rw [ha] at due
      exact due.ok H' (some (q, M)) p ⟨H, fun _ _ hb _ => hb, hn⟩ (fun _ h => h) (DkAt.mono e d) (.some r) (Fr.of e) (fun b hb => .inl hb) hp
    cases ci with
    | @keep l hl =>
      cases pr with
      | @cons ra _ ras _ h1 h2 =>
        cases h2
        refine ⟨_, rfl, rfl, _, rfl, iteT' (by decide) ?_⟩
        refine ⟨_, rfl, D, _, _, rfl, d.1, rfl, _, rfl, rl, _, _, _, rfl, rfl, SqL.of hrl, at_of (j := 0) rfl rfl, ?_⟩
        exact ⟨D, dD, ra, q, M, z, l, rfl, d, r, h1, hl, due⟩
    | @put m l hl =>
      cases pr with
      | @cons ra _ ras _ h1 h2 =>
        cases h2
        refine ⟨_, rfl, rfl, _, rfl, iteF' (by decide) ?_⟩
        refine ⟨_, rfl, rfl, _, rfl, iteT' (by decide) ?_⟩
        refine ⟨_, rfl, D, _, _, rfl, d.1, rfl, _, rfl, nl, _, _, _, rfl, rfl, SqL.of hnl, at_of (j := 0) rfl rfl, _, rfl, rl, _, _, _, rfl, rfl, SqL.of hrl, at_of (j := 0) rfl rfl, ?_⟩
        exact ⟨D, dD, ra, q, M, z, m, l, rfl, d, r, h1, hl, due⟩
    | @take i =>
      refine ⟨_, rfl, rfl, _, rfl, iteF' (by decide) ?_⟩
      refine ⟨_, rfl, rfl, _, rfl, iteF' (by decide) ?_⟩
      refine ⟨_, rfl, rfl, _, rfl, iteT' (by decide) ?_⟩
      refine ⟨_, rfl, D, _, _, rfl, d.1, rfl, _, rfl, nl, _, _, _, rfl, rfl, SqL.of hnl, at_of (j := 0) rfl rfl, ?_⟩
      exact ⟨D, dD, q, M, z, i, rfl, d, r, due⟩
    | @refresh g =>
      refine ⟨_, rfl, rfl, _, rfl, iteF' (by decide) ?_⟩
      refine ⟨_, rfl, rfl, _, rfl, iteF' (by decide) ?_⟩
      refine ⟨_, rfl, rfl, _, rfl, iteF' (by decide) ?_⟩
      refine ⟨_, rfl, rfl, _, rfl, iteT' (by decide) ?_⟩
      refine ⟨_, rfl, D, _, _, rfl, d.1, rfl, _, rfl, nl, _, _, _, rfl, rfl, SqL.of hnl, at_of (j := 0) rfl rfl, ?_⟩
      exact ⟨D, dD, q, M, z, g, rfl, d, r, due⟩
    | ages =>
      refine ⟨_, rfl, rfl, _, rfl, iteF' (by decide) ?_⟩
      refine ⟨_, rfl, rfl, _, rfl, iteF' (by decide) ?_⟩
      refine ⟨_, rfl, rfl, _, rfl, iteF' (by decide) ?_⟩
      refine ⟨_, rfl, rfl, _, rfl, iteF' (by decide) ?_⟩
      refine ⟨_, rfl, rfl, _, rfl, iteT' (by decide) ?_⟩
      refine ⟨_, rfl, D, _, _, rfl, d.1, rfl, ?_⟩
      exact ⟨D, dD, q, M, z, rfl, d, r, same_ok _ rfl⟩
    | @read g a =>
      refine ⟨_, rfl, rfl, _, rfl, iteF' (by decide) ?_⟩
      refine ⟨_, rfl, rfl, _, rfl, iteF' (by decide) ?_⟩
      refine ⟨_, rfl, rfl, _, rfl, iteF' (by decide) ?_⟩
      refine ⟨_, rfl, rfl, _, rfl, iteF' (by decide) ?_⟩
      refine ⟨_, rfl, rfl, _, rfl, iteF' (by decide) ?_⟩
      refine ⟨_, rfl, rfl, _, rfl, iteT' (by decide) ?_⟩
      refine ⟨_, rfl, D, _, _, rfl, d.1, rfl, _, rfl, nl, _, _, _, rfl, rfl, SqL.of hnl, at_of (j := 0) rfl rfl, _, rfl, nl, _, _, _, rfl, rfl, SqL.of hnl, at_of (j := 1) rfl rfl, ?_⟩
      exact ⟨D, dD, q, M, z, g, a, rfl, d, r, due⟩
    | together =>
      refine ⟨_, rfl, rfl, _, rfl, iteF' (by decide) ?_⟩
      refine ⟨_, rfl, rfl, _, rfl, iteF' (by decide) ?_⟩
      refine ⟨_, rfl, rfl, _, rfl, iteF' (by decide) ?_⟩
      refine ⟨_, rfl, rfl, _, rfl, iteF' (by decide) ?_⟩
      refine ⟨_, rfl, rfl, _, rfl, iteF' (by decide) ?_⟩
      refine ⟨_, rfl, rfl, _, rfl, iteF' (by decide) ?_⟩
      refine ⟨_, rfl, rfl, _, rfl, iteT' (by decide) ?_⟩
      refine ⟨_, rfl, D, _, _, rfl, d.1, rfl, ?_⟩
      exact ⟨D, dD, q, M, z, rfl, d, r, same_ok _ rfl⟩
    | @was n g =>
      refine ⟨_, rfl, rfl, _, rfl, iteF' (by decide) ?_⟩
      refine ⟨_, rfl, rfl, _, rfl, iteF' (by decide) ?_⟩
      refine ⟨_, rfl, rfl, _, rfl, iteF' (by decide) ?_⟩
      refine ⟨_, rfl, rfl, _, rfl, iteF' (by decide) ?_⟩
      refine ⟨_, rfl, rfl, _, rfl, iteF' (by decide) ?_⟩
      refine ⟨_, rfl, rfl, _, rfl, iteF' (by decide) ?_⟩
      refine ⟨_, rfl, rfl, _, rfl, iteF' (by decide) ?_⟩
      refine ⟨_, rfl, D, _, _, rfl, d.1, rfl, _, rfl, nl, _, _, _, rfl, rfl, SqL.of hnl, at_of (j := 0) rfl rfl, _, rfl, nl, _, _, _, rfl, rfl, SqL.of hnl, at_of (j := 1) rfl rfl, ?_⟩
      exact ⟨D, dD, q, M, z, n, g, rfl, d, r, due⟩
theorem ok_Desk_answer (T : Txt K mg A) : Ok P w K mg base CX0 11 A.f_Desk_answer P_Desk_answer (sp_danswer A) := by
  obtain ⟨fd, F, b⟩ := T.F_Desk_answer
  obtain ⟨fd_Desk_asked, b_Desk_asked, G_Desk_asked⟩ := ok_Desk_asked (P := P) (w := w) (base := base) T
  obtain ⟨fd_Desk_load, b_Desk_load, G_Desk_load⟩ := ok_Desk_load (P := P) (w := w) (base := base) T
  refine ⟨fd, b, F.ok sc_Desk_answer (fun vs H Q E h => by
    obtain ⟨D, dD, nl, rl, X, xs, w', o, cn, ns, ras, rows, rfl, _⟩ := h
    rfl) (fun cdv Ar outer s H vs Q E hr h => ?_)⟩
  refine ⟨_, (pss_one (ps_try_as (i := 4) (Wout := fun _ _ _ _ => False) rfl rfl sc_Desk_answer.nd rfl rfl ⟨rfl, by decide, .inl T.g_Refused⟩ takes0
      (fun W pn xe tk _ => (pss_one (ps_ret (pe_ifExp (pt_cmpR op_eq (pv 1) pe_int (nomark _)) (pe_meth (pv 0) T.cl_Desk T.m_Desk_load G_Desk_load (hr.mono (by decide)) b_Desk_load .nil pass0 (pa_cons (pe_ix (ix_listK (K := K)) (pv 3) pe_int (fun _ _ => rfl)) pa_nil)) (pe_methT (pv 0) T.cl_Desk T.m_Desk_asked G_Desk_asked (hr.mono (by decide)) b_Desk_asked (fun σ => passAt tk σ) (by exact (pa_cons (pv 1) (pa_cons (pv 2) (pa_cons (pv 3) pa_nil)))))))))
      (fun a oe cls d pn hz hf => (pss_one (ps_ret (pe_lst (pa_cons (pe_xf T.xf_Refused T.xn_Refused_number hz hf (pv 4)) pa_nil))))))), ?_⟩
  obtain ⟨D, dD, nl, rl, X, xs, w', o, cn, ns, ras, rows, rfl, hX, xis, d, ro, hnl, hrl, pr, ask, k⟩ := h
  have dk := d.desk
  obtain ⟨fs, hD, v0, hfs⟩ := dk
  subst hfs
  cases ask1_of ask with
  | @load l b hb hc =>
    cases pr with
    | @cons ra _ ras _ h1 h2 =>
      cases h2
      have h1' : H ra = some (.lst (l.map byV)) := by rw [← hb]; exact h1
      have es : VamvscNeutral.step o [[(0 : Nat)], b] = ((Vamvsc.step o (.load l)).1, VamvscNeutral.encode (Vamvsc.step o (.load l)).2) := by
        unfold VamvscNeutral.step
        show (match VamvscNeutral.callOf [[0], b] with
          | some k => ((Vamvsc.step o k).1, VamvscNeutral.encode (Vamvsc.step o k).2)
          | none => (o, [-99])) = _
        rw [hc]
      refine ⟨_, rfl, rfl, _, rfl, iteT' (by decide) ?_⟩
      refine ⟨_, rfl, D, _, _, rfl, hD, rfl, _, rfl, rl, _, _, _, rfl, rfl, SqL.of hrl, at_of (j := 0) rfl rfl, ?_⟩
      refine ⟨D, dD, ra, X, w', o, l, xs, hX, xis, rfl, d, ro, h1', fun H' w2 p a0 ax a1 a2 a3 a4 a5 => ?_⟩
      · refine k H' w2 p a0 ax a1 ?_ a3 a4 ?_
        · have := congrArg (fun x : Option Held × List Int => x.1) es
          exact this ▸ a2
        · have := congrArg (fun x : Option Held × List Int => x.2) es
          exact this ▸ a5
  | @other _ _ _ kk ci hc =>
    have es : VamvscNeutral.step o (((cn : Int) :: ns) :: rows) = ((Vamvsc.step o kk).1, VamvscNeutral.encode (Vamvsc.step o kk).2) := by
      unfold VamvscNeutral.step
      rw [hc]
    rw [es] at k
    have nc : decide (V.int (cn : Int) = V.int 0) = false := by
      cases ci <;> decide
    refine ⟨_, rfl, rfl, _, rfl, iteF' nc ?_⟩
    refine ⟨_, rfl, D, _, _, rfl, hD, rfl, _, rfl, _, rfl, _, rfl, ?_⟩
    refine ⟨D, dD, nl, rl, w', o, kk, cn, ns, ras, rows, rfl, d, ro, hnl, hrl, pr, ci, ⟨fun n hn => ?_, fun H' w2 p a0 ax a1 a2 a3 a4 a5 => k H' w2 p a0 (ax X xis) a1 a2 a3 a4 a5⟩⟩
    refine fun H' dx e hdx => ⟨true, T.te_Refused, fun _ a ha => ?_, fun z => by cases z⟩
    refine ⟨_, rfl, rfl, rfl, dx, _, _, rfl, hdx, rfl, (by show 1 ≤ sizeLine; decide), fun p hp => ?_⟩
    have e2 := e.trans (Same.new (o := .lst [V.int n]) hp)
    rw [hn] at k
    exact k _ w' p ⟨_, Fr.of e, hp⟩ xis (DkAt.mono e2 d) ro (Fr.of e2) (fun b hb => .inl hb) upd_same
end
end KR
end
section
set_option maxRecDepth 100000
set_option maxHeartbeats 4000000
/-! tables: rows_at, answers. -/
namespace KR
open PySem PySem.Spec PyProof.Rows L2
open Vamvsc (Held)
theorem row_eq {c : Int} {r x s : List Int} (h : PyFlat.row (c :: r) = some (x, s)) : ∃ n : Nat, c = (n : Int) ∧ n ≤ r.length ∧ x = r.take n ∧ s = r.drop n := by
  have h : (if 0 ≤ c ∧ c.toNat ≤ r.length then some (r.take c.toNat, r.drop c.toNat) else none) = some (x, s) := h
  by_cases g : 0 ≤ c ∧ c.toNat ≤ r.length
  · rw [if_pos g] at h
    cases h
    exact ⟨c.toNat, (Int.toNat_of_nonneg g.1).symm, g.2, rfl, rfl⟩
  · rw [if_neg g] at h
    cases h
theorem rows_step {k : Nat} {r : List Int} {xs : List (List Int)} {t : List Int} (h : PyFlat.rows (k + 1) r = some (xs, t)) : ∃ (c : Nat) (r2 : List Int) (ys : List (List Int)), r = (c : Int) :: r2 ∧ c ≤ r2.length ∧ PyFlat.rows k (r2.drop c) = some (ys, t) ∧ xs = r2.take c :: ys := by
  unfold PyFlat.rows at h
  cases e : PyFlat.row r with
  | none => rw [e] at h; cases h
  | some p =>
    obtain ⟨x, s⟩ := p
    rw [e] at h
    have h2 : (match PyFlat.rows k s with
      | none => none
      | some (xs, t) => some (x :: xs, t)) = some (xs, t) := h
    cases e2 : PyFlat.rows k s with
    | none => rw [e2] at h2; cases h2
    | some p2 =>
      obtain ⟨ys, t2⟩ := p2
      rw [e2] at h2
      cases h2
      cases r with
      | nil => cases e
      | cons c r2 =>
        obtain ⟨n, h3, h4, h5, h6⟩ := row_eq e
        subst h3 h5 h6
        exact ⟨n, r2, ys, rfl, h4, e2, rfl⟩
theorem calls_step {f : Nat} {p : Int} {r : List Int} {rest : List (List (List Int))} (h : PyFlat.calls PyVamvsc.shape f (p :: r) = some rest) :
    ∃ (f2 n k : Nat) (xs : List (List Int)) (t : List Int) (cs : List (List (List Int))), PyVamvsc.shape p = some (n, k) ∧ n ≤ r.length ∧ PyFlat.rows k (r.drop n) = some (xs, t) ∧ PyFlat.calls PyVamvsc.shape f2 t = some cs ∧ rest = ((p :: r.take n) :: xs) :: cs := by
  cases f with
  | zero => cases h
  | succ f =>
    have h2 : (match PyFlat.call PyVamvsc.shape (p :: r) with
      | none => none
      | some (c, t) => match PyFlat.calls PyVamvsc.shape f t with
        | none => none
        | some cs => some (c :: cs)) = some rest := h
    have hc : PyFlat.call PyVamvsc.shape (p :: r) = (match PyVamvsc.shape p with
      | none => none
      | some (n, k) => if r.length < n then none else match PyFlat.rows k (r.drop n) with
        | none => none
        | some (xs, t) => some ((p :: r.take n) :: xs, t)) := rfl
    cases e : PyVamvsc.shape p with
    | none => rw [e] at hc; rw [hc] at h2; cases h2
    | some nk =>
      obtain ⟨n, k⟩ := nk
      rw [e] at hc
      have hc2 : PyFlat.call PyVamvsc.shape (p :: r) = (if r.length < n then none else match PyFlat.rows k (r.drop n) with
        | none => none
        | some (xs, t) => some ((p :: r.take n) :: xs, t)) := hc
      by_cases c : r.length < n
      · rw [if_pos c] at hc2; rw [hc2] at h2; cases h2
      rw [if_neg c] at hc2
      cases e2 : PyFlat.rows k (r.drop n) with
      | none => rw [e2] at hc2; rw [hc2] at h2; cases h2
      | some xt =>
        obtain ⟨xs, t⟩ := xt
        rw [e2] at hc2
        rw [hc2] at h2
        have h3 : (match PyFlat.calls PyVamvsc.shape f t with
          | none => none
          | some cs => some (((p :: r.take n) :: xs) :: cs)) = some rest := h2
        cases e3 : PyFlat.calls PyVamvsc.shape f t with
        | none => rw [e3] at h3; cases h3
        | some cs =>
          rw [e3] at h3
          cases h3
          exact ⟨f, n, k, xs, t, cs, rfl, by omega, e2, e3, rfl⟩
theorem whole_id (c : List (List Int)) : PyVamvsc.whole c = c := by
  unfold PyVamvsc.whole
  split <;> rfl
theorem asked_parts {l : List Int} (h : PyVamvsc.answers_asked l = true) : ∃ raw, PyFlat.calls PyVamvsc.shape l.length l = some raw ∧ raw.all VamvscNeutral.asked1 = true ∧ PyVamvsc.answers l = PyFlat.told (PyFlat.played VamvscNeutral.step VamvscNeutral.start raw) ∧ (PyVamvsc.answers l).length ≤ 10000000 := by
  unfold PyVamvsc.answers_asked at h
  cases e : PyFlat.calls PyVamvsc.shape l.length l with
  | none => rw [e] at h; cases h
  | some raw =>
    rw [e] at h
    have h2 : (!raw.isEmpty && PyFlat.atMost 60 raw && PyInside.calls PyVamvsc.bound raw && VamvscNeutral.asked (raw.map PyVamvsc.whole) && PyFlat.short 10000000 (PyVamvsc.answers l)) = true := h
    rw [Bool.and_eq_true, Bool.and_eq_true] at h2
    have em : raw.map PyVamvsc.whole = raw := by
      rw [List.map_congr_left (g := id) fun c _ => whole_id c, List.map_id]
    have h3 := h2.1.2
    rw [em] at h3
    unfold VamvscNeutral.asked at h3
    rw [Bool.and_eq_true] at h3
    refine ⟨raw, rfl, h3.1, ?_, of_decide_eq_true h2.2⟩
    unfold PyVamvsc.answers PyVamvsc.calls
    rw [e]
    show PyFlat.told (PyFlat.played VamvscNeutral.step VamvscNeutral.start (raw.map PyVamvsc.whole)) = _
    rw [em]
theorem shape_forms {K : PySem.W.Frag} {mg : Str → Option Value} {A : Ads} (T : Txt K mg A) (H : Hp) {p : Int} {n k : Nat} (h : PyVamvsc.shape p = some (n, k)) : ∃ (c : Nat) (ad : Addr), p = (c : Int) ∧
    [V.ref A.a_F0, V.ref A.a_F1, V.ref A.a_F2, V.ref A.a_F3, V.ref A.a_F4, V.ref A.a_F5, V.ref A.a_F6, V.ref A.a_F7, V.ref A.a_F8][c]? = some (.ref ad) ∧ SqT K H ad [V.int (n : Int), V.int (k : Int)] ∧ n ≤ 2 ∧ k ≤ 1 := by
  unfold PyVamvsc.shape at h
  split at h
  · cases h; exact ⟨0, _, by assumption, rfl, T.w_F0 H, by decide, by decide⟩
  split at h
  · cases h; exact ⟨1, _, by assumption, rfl, T.w_F1 H, by decide, by decide⟩
  split at h
  · cases h; exact ⟨2, _, by assumption, rfl, T.w_F2 H, by decide, by decide⟩
  split at h
  · cases h; exact ⟨3, _, by assumption, rfl, T.w_F3 H, by decide, by decide⟩
  split at h
  · cases h; exact ⟨4, _, by assumption, rfl, T.w_F4 H, by decide, by decide⟩
  split at h
  · cases h; exact ⟨5, _, by assumption, rfl, T.w_F5 H, by decide, by decide⟩
  split at h
  · cases h; exact ⟨6, _, by assumption, rfl, T.w_F6 H, by decide, by decide⟩
  split at h
  · cases h; exact ⟨7, _, by assumption, rfl, T.w_F7 H, by decide, by decide⟩
  split at h
  · cases h; exact ⟨8, _, by assumption, rfl, T.w_F8 H, by decide, by decide⟩
  cases h
/-- a list that may be held still -/
theorem sq_mono {K : PySem.W.Frag} {H H' : Hp} (e : Same H H') {a : Addr} {xs : List V} (h : SqL K H a xs) : SqL K H' a xs := by
  rcases h with h | h
  · refine .inl ?_
    rcases h with h | ⟨o, h⟩
    · exact .inl (e _ _ h)
    · exact .inr ⟨o, e _ _ h⟩
  · exact .inr h
def sp_rows_at (K : PySem.W.Frag) : Sp := fun vs H Q _ => ∃ (a : Addr) (l : List Int) (i k : Nat) (xs : List (List Int)) (t : List Int), vs = [.ref a, .int (i : Int), .int (k : Int)] ∧ SqL K H a (l.map V.int) ∧ i ≤ l.length ∧ l.length ≤ 1000000 ∧ k ≤ 100 ∧ PyFlat.rows k (l.drop i) = some (xs, t) ∧
  ∀ H' q p ras (j : Nat), Same H H' → H' q = some (.tup [.ref p, .int (j : Int)]) → H' p = some (.lst (ras.map V.ref)) → Paired (ListAt H') ras xs → i ≤ j → j ≤ l.length → l.drop j = t → Q (.ref q) H'
def sp_answers (K : PySem.W.Frag) : Sp := fun vs H Q _ => ∃ (a : Addr) (l : List Int), vs = [.ref a] ∧ SqL K H a (l.map V.int) ∧ l.length ≤ 1000000 ∧ PyVamvsc.answers_asked l = true ∧
  ∀ H' p, Same H H' → H' p = some (.lst ((PyVamvsc.answers l).map V.int)) → Q (.ref p) H'
theorem St.extU {A : Ads} {q : SA} {M : Mz} {H : Hp} (d : St A q M H) (n1 : q.X ≠ q.S) (ys : List V) : St A q M (upd H q.X (.lst ys)) := by
  obtain ⟨xs, hX⟩ := d.ext
  have mv : ∀ b o, H b = some o → (∀ xs, o ≠ .lst xs) → upd H q.X (.lst ys) b = some o := fun b o hb hn => by
    rw [upd_ne fun z => by rw [z, hX] at hb; exact hn _ (Option.some.inj hb).symm]
    exact hb
  have mrow : ∀ a x, RowAt H a x → RowAt (upd H q.X (.lst ys)) a x := fun a x ⟨u, u1, u2⟩ => ⟨u, mv _ _ u1 fun _ z => (nomatch z), mv _ _ u2 fun _ z => (nomatch z)⟩
  obtain ⟨k1, ⟨hs, k2, k3, k4⟩, ⟨cs, k5, k6⟩, ⟨kvs, k7, k8⟩, k9, k10, k11, k12⟩ := d
  refine ⟨mv _ _ k1 fun _ z => (nomatch z), ⟨hs, (upd_ne (Ne.symm k12.1)).trans k2, ?_, k4⟩, ⟨cs, (upd_ne (Ne.symm k12.2)).trans k5, pr_imp k6 fun _ _ ⟨p, p1, p2⟩ => ⟨p, mv _ _ p1 fun _ z => (nomatch z), mrow _ _ p2⟩⟩,
    ⟨kvs, mv _ _ k7 fun _ z => (nomatch z), pr_imp k8 fun _ _ ⟨c1, u, dd, L, c2, c3, kv, c4, c5⟩ => ⟨c1, u, dd, L, c2, mv _ _ c3 fun _ z => (nomatch z), kv, mv _ _ c4 fun _ z => (nomatch z), pr_imp c5 fun _ _ ⟨g1, g2, g3, g4⟩ => ⟨g1, g2, g3, mv _ _ g4 fun _ z => (nomatch z)⟩⟩⟩, k9, k10, ⟨ys, upd_same⟩, k12⟩
  have aux : ∀ (l : List Addr) (m : List (List SRow)), Paired (RowsAt H) l m → (∀ h ∈ l, h ≠ q.X) → Paired (RowsAt (upd H q.X (.lst ys))) l m := by
    intro l m h
    induction h with
    | nil => exact fun _ => .nil
    | cons r t ih =>
      intro hm
      obtain ⟨as, r1, r2⟩ := r
      exact .cons ⟨as, (upd_ne (hm _ List.mem_cons_self)).trans r1, pr_imp r2 mrow⟩ (ih fun x hx => hm x (List.mem_cons_of_mem _ hx))
  exact aux _ _ k3 fun h hh => (k4 h hh).2.2
theorem DkAt.ext {A : Ads} {D dD F0 : Addr} {w : DSt} {H : Hp} (d : DkAt A D dD w H) (x : XIs F0 w) (nf : F0 ∉ foot D w) (dummy : False → True) (ys : List V) : DkAt A D dD w (upd H F0 (.lst ys)) := by
  have nD : D ≠ F0 := fun z => nf (by rw [← z]; exact foot_self w)
  cases w with
  | none => exact (upd_ne nD).trans d
  | some p =>
    obtain ⟨q, M⟩ := p
    have x2 : q.X = F0 := x
    subst x2
    exact ⟨(upd_ne nD).trans d.1, d.2.extU (fun z => nf (by rw [z]; exact List.mem_cons_of_mem _ List.mem_cons_self)) ys⟩
theorem ListAt.mono {H H' : Hp} (e : Same H H') {a : Addr} {l : List Int} (h : ListAt H a l) : ListAt H' a l := e _ _ h
section
variable {P : Program} {w : World} {K : PySem.W.Frag} {mg : Str → Option Value} {base : Heap} {A : Ads}
theorem ok_rows_at (T : Txt K mg A) : Ok P w K mg base CX0 1 A.f_rows_at P_rows_at (sp_rows_at K) := by
  obtain ⟨fd, F, b⟩ := T.F_rows_at
  refine ⟨fd, b, F.ok sc_rows_at (fun vs H Q E h => by
    obtain ⟨a, l, i, k, xs, t, rfl, _⟩ := h
    rfl) (fun cdv Ar outer s H vs Q E hr h => ?_)⟩
  refine ⟨_, (pss_cons (ps_set (i := 3) sc_rows_at.nd rfl (by first | exact Or.inl rfl | exact Or.inr rfl) (pe_lst pa_nil))
    (pss_cons (ps_for PassesOwn.never rfl (pi_range1 rfl T.n_range (pa_cons (pv 2) pa_nil)) (pg_name (i := 4) sc_rows_at.nd rfl (by first | exact Or.inl rfl | exact Or.inr rfl)) (pss_cons (ps_expr (pe_bm PySem.F.plainAttrs_list PySem.F.slot_list_append PySem.F.type_list_append mt_append (pv 3) (pa_cons (pe_slice sl_list (pv 0) (po_some (pe_op op_add (pv 1) pe_int)) (po_some (pe_op op_add (pe_op op_add (pv 1) pe_int) (pe_ix ix_list (pv 0) (pv 1) (fun _ _ => rfl))))) pa_nil)))
    (pss_one (ps_set (i := 1) sc_rows_at.nd rfl (by first | exact Or.inl rfl | exact Or.inr rfl) (pe_op op_add (pe_op op_add (pv 1) pe_int) (pe_ix ix_list (pv 0) (pv 1) (fun _ _ => rfl)))))))
    (pss_one (ps_ret (pe_tup (pa_cons (pv 3) (pa_cons (pv 1) pa_nil))))))), ?_⟩
  obtain ⟨a, l, i, k, xs, t, rfl, ha, hi, hl, hk, hrows, kk⟩ := h
  refine ⟨(by show 0 ≤ sizeLine; decide), fun pf hpf => ?_⟩
  have e1 := Same.new (o := .lst []) hpf
  have hpf1 : upd H pf (.lst []) pf = some (.lst []) := upd_same
  generalize upd H pf (.lst []) = H1 at e1 hpf1 ⊢
  refine ⟨_, rfl, _, rfl, by omega, by omega, for_range (lo := 0) (n := k)
    (fun m σ H' => ∃ (j : Nat) (ras : List Addr) (done rest : List (List Int)) (v4 : Option V), σ = [some (.ref a), some (.int (j : Int)), some (.int (k : Int)), some (.ref pf), v4] ∧ Same H H' ∧ H' pf = some (.lst (ras.map V.ref)) ∧ Paired (ListAt H') ras done ∧ (∀ r ∈ ras, r ≠ pf) ∧
      i ≤ j ∧ j ≤ l.length ∧ xs = done ++ rest ∧ done.length = m ∧ PyFlat.rows (k - m) (l.drop j) = some (rest, t))
    ⟨i, [], [], xs, none, rfl, e1, hpf1, .nil, fun _ h => (List.not_mem_nil h).elim, Nat.le_refl _, hi, rfl, rfl, hrows⟩ ?_ ?_⟩
  · rintro m σ H2 hm ⟨j, ras, done, rest, v4, rfl, e2, hf2, pr, nf, hij, hj, hxs, hdl, hr⟩
    rw [show k - m = (k - m - 1) + 1 from by omega] at hr
    obtain ⟨c, r2, ys, h1, h2, h3, h4⟩ := rows_step hr
    have jlt : j < l.length := by
      have := congrArg List.length h1
      rw [List.length_drop, List.length_cons] at this
      omega
    have hcj : l[j]? = some (c : Int) := by
      have := congrArg (fun x : List Int => x[0]?) h1
      simpa using this
    have hr2 : l.drop (j + 1) = r2 := by
      have := congrArg (List.drop 1) h1
      rw [List.drop_drop] at this
      exact this
    have hlen2 : r2.length = l.length - (j + 1) := by rw [← hr2, List.length_drop]
    have ha2 := sq_mono e2 ha
    refine ⟨_, rfl, .inl ⟨rfl, _, SqL.of hf2⟩, ?_⟩
    refine ⟨_, rfl, _, rfl, _, _, rfl, rfl, _, rfl, _, rfl, _, _, rfl, rfl, _, rfl, _, rfl, a, _, _, _, rfl, rfl, ha2, at_of rfl (map_at' hcj), _, _, rfl, rfl, _, rfl, a, _, rfl, ha2, fun p hp => ?_⟩
    have ecut : cutV (l.map V.int) (some ((j : Int) + 1)) (some ((j : Int) + 1 + (c : Int))) = (r2.take c).map V.int := by
      have := cut_nat (l.map V.int) (i := j + 1) (j := j + 1 + c) (by rw [List.length_map]; omega) (by rw [List.length_map]; omega)
      rw [show j + 1 + c - (j + 1) = c from by omega, ← List.map_drop, ← List.map_take, hr2] at this
      exact this
    rw [ecut]
    have e3 := Same.new (o := .lst ((r2.take c).map V.int)) hp
    have hp3 : upd H2 p (.lst ((r2.take c).map V.int)) p = some (.lst ((r2.take c).map V.int)) := upd_same
    have npf : p ≠ pf := Ne.symm (ne_of_none hf2 hp)
    generalize upd H2 p (.lst ((r2.take c).map V.int)) = H3 at e3 hp3 ⊢
    have lr := pr_len pr
    refine ⟨pf, _, _, rfl, rfl, e3 _ _ hf2, sz_lt (by rw [List.length_map, lr]; omega), ?_⟩
    have ha4 : SqL K (upd H3 pf (.lst (ras.map V.ref ++ [.ref p]))) a (l.map V.int) := sq_mono (Same.mut (e2.trans e3) hpf) ha
    refine ⟨_, rfl, _, _, rfl, rfl, _, rfl, _, rfl, a, _, _, _, rfl, rfl, ha4, at_of rfl (map_at' hcj), _, _, rfl, rfl, ?_⟩
    have mv : ∀ r x, r ≠ pf → ListAt H3 r x → ListAt (upd H3 pf (.lst (ras.map V.ref ++ [.ref p]))) r x := fun r x hr hx => (upd_ne hr).trans hx
    have prs : ∀ {ras : List Addr} {xs : List (List Int)}, Paired (ListAt H2) ras xs → (∀ r ∈ ras, r ≠ pf) → Paired (ListAt (upd H3 pf (.lst (ras.map V.ref ++ [.ref p])))) ras xs → True := fun _ _ _ => True.intro
    have prs2 : ∀ (as : List Addr) (xs : List (List Int)), Paired (ListAt H2) as xs → (∀ r ∈ as, r ≠ pf) → Paired (ListAt (upd H3 pf (.lst (ras.map V.ref ++ [.ref p])))) as xs := by
      intro as xs h
      induction h with
      | nil => exact fun _ => .nil
      | cons r t ih => exact fun hn => .cons (mv _ _ (hn _ List.mem_cons_self) (ListAt.mono e3 r)) (ih fun x hx => hn x (List.mem_cons_of_mem _ hx))
    refine ⟨j + 1 + c, ras ++ [p], done ++ [r2.take c], ys, some (.int ((0 : Int) + (m : Nat))), rfl, Same.mut (e2.trans e3) hpf, by rw [upd_same, List.map_append]; rfl, pr_app (prs2 _ _ pr nf) (.cons (mv _ _ npf hp3) .nil), ?_, by omega, by omega, by rw [hxs, h4, List.append_assoc]; rfl, by rw [List.length_append, hdl]; rfl, ?_⟩
    · intro r hr
      rcases List.mem_append.mp hr with z | z
      · exact nf r z
      · rw [List.mem_singleton.mp z]
        exact npf
    · rw [show k - (m + 1) = k - m - 1 from by omega]
      rw [← hr2, List.drop_drop] at h3
      exact h3
  · rintro σ H2 ⟨j, ras, done, rest, v4, rfl, e2, hf2, pr, nf, hij, hj, hxs, hdl, hr⟩
    rw [Nat.sub_self] at hr
    cases hr
    rw [List.append_nil] at hxs
    subst hxs
    refine ⟨_, rfl, _, rfl, (by show 2 ≤ sizeLine; decide), fun q hq => ?_⟩
    have e3 := Same.new (o := .tup [.ref pf, .int (j : Int)]) hq
    exact kk _ q pf ras j (e2.trans e3) upd_same (e3 _ _ hf2) (pr_imp pr fun _ _ => ListAt.mono e3) hij hj rfl
theorem ok_answers (T : Txt K mg A) {fd : FuncData} (F : Fun K "answers" "answers" s_answers A.f_answers fd) : ∀ base : Heap, FnOk P w K mg base CX0 12 A.f_answers fd P_answers (sp_answers K) := by
  intro base
  obtain ⟨fd_Desk_init, b_Desk_init, G_Desk_init⟩ := ok_Desk_init (P := P) (w := w) (base := base) T
  obtain ⟨fd_Desk_answer, b_Desk_answer, G_Desk_answer⟩ := ok_Desk_answer (P := P) (w := w) (base := base) T
  obtain ⟨fd_rows_at, b_rows_at, G_rows_at⟩ := ok_rows_at (P := P) (w := w) (base := base) T
  refine F.ok sc_answers (fun vs H Q E h => by
    obtain ⟨a, l, rfl, _⟩ := h
    rfl) (fun cdv Ar outer s H vs Q E hr h => ?_)
  refine ⟨_, (pss_cons (ps_set (i := 1) sc_answers.nd rfl (by first | exact Or.inl rfl | exact Or.inr rfl) (pe_make0 T.mk_Desk G_Desk_init (hr.mono (by decide)) rfl T.g_Desk b_Desk_init .nil pass0))
    (pss_cons (ps_set (i := 2) sc_answers.nd rfl (by first | exact Or.inl rfl | exact Or.inr rfl) (pe_lst pa_nil))
    (pss_cons (ps_set (i := 3) sc_answers.nd rfl (by first | exact Or.inl rfl | exact Or.inr rfl) pe_int)
    (pss_cons (ps_while PassesOwn.never (pt_cmpR op_lt (pv 3) (pe_callB call_len_seq (by rfl) T.n_len (by decide +kernel) (pa_cons (pv 0) pa_nil)) (nomark _)) (pss_cons (ps_set (i := 4) sc_answers.nd rfl (by first | exact Or.inl rfl | exact Or.inr rfl) (pe_ix ix_list (pv 0) (pv 3) (fun _ _ => rfl)))
    (pss_cons (ps_asg (pe_ix ix_tup (pe_glob (v := .ref A.a_FORMS) rfl T.g_FORMS rfl) (pv 4) (fun _ _ => rfl)) (pg_tup rfl (pgs_cons (pg_name (i := 8) sc_answers.nd rfl (by first | exact Or.inl rfl | exact Or.inr rfl)) (pgs_cons (pg_name (i := 9) sc_answers.nd rfl (by first | exact Or.inl rfl | exact Or.inr rfl)) pgs_nil))))
    (pss_cons (ps_set (i := 5) sc_answers.nd rfl (by first | exact Or.inl rfl | exact Or.inr rfl) (pe_op op_add (pe_op op_add (pv 3) pe_int) (pv 8)))
    (pss_cons (ps_set (i := 6) sc_answers.nd rfl (by first | exact Or.inl rfl | exact Or.inr rfl) (pe_slice sl_list (pv 0) (po_some (pe_op op_add (pv 3) pe_int)) (po_some (pv 5))))
    (pss_cons (ps_asg (pe_call G_rows_at (hr.mono (by decide)) rfl T.g_rows_at T.k_rows_at b_rows_at .nil pass0 (pa_cons (pv 0) (pa_cons (pv 5) (pa_cons (pv 9) pa_nil)))) (pg_tup rfl (pgs_cons (pg_name (i := 10) sc_answers.nd rfl (by first | exact Or.inl rfl | exact Or.inr rfl)) (pgs_cons (pg_name (i := 3) sc_answers.nd rfl (by first | exact Or.inl rfl | exact Or.inr rfl)) pgs_nil))))
    (pss_cons (ps_set (i := 7) sc_answers.nd rfl (by first | exact Or.inl rfl | exact Or.inr rfl) (pe_meth (pv 1) T.cl_Desk T.m_Desk_answer G_Desk_answer (hr.mono (by decide)) b_Desk_answer .nil pass0 (pa_cons (pv 4) (pa_cons (pv 6) (pa_cons (pv 10) pa_nil)))))
    (pss_cons (ps_expr (pe_bm PySem.F.plainAttrs_list PySem.F.slot_list_append PySem.F.type_list_append mt_append (pv 2) (pa_cons (pe_callB call_len_seq (by rfl) T.n_len (by decide +kernel) (pa_cons (pv 7) pa_nil)) pa_nil)))
    (pss_one (ps_expr (pe_bm PySem.F.plainAttrs_list PySem.F.slot_list_extend PySem.F.type_list_extend mt_extend (pv 2) (pa_cons (pv 7) pa_nil))))))))))))
    (pss_one (ps_ret (pv 2))))))), ?_⟩
  obtain ⟨a, l, rfl, ha, hl, hask, k⟩ := h
  obtain ⟨raw, q1, q2, q3, q4⟩ := asked_parts hask
  -- desk = Desk()
  refine fun D dD hD hdD nD => ?_
  have e0 : Same H (upd (upd H dD (.own D)) D (.ins A.c_Desk dD [])) := (Same.new hdD).trans (Same.new (by rw [upd_ne (Ne.symm nD)]; exact hD))
  refine ⟨D, dD, rfl, upd_same, fun H1 f1 hD1 => ⟨rfl, ?_⟩⟩
  have e1 : Same H H1 := fun b o hb => f1 b o (e0 b o hb) (ne_of_none hb hD)
  refine ⟨(by show 0 ≤ sizeLine; decide), fun F0 hF0 => ?_⟩
  have e2 := Same.new (o := .lst []) hF0
  have hF2 : upd H1 F0 (.lst []) F0 = some (.lst []) := upd_same
  have nFD : F0 ≠ D := Ne.symm (ne_of_none hD1 hF0)
  have hF0H : H F0 = none := e1.free hF0
  have hD2 := e2 _ _ hD1
  generalize upd H1 F0 (.lst []) = H2 at e2 hF2 hD2 ⊢
  refine ⟨fun m σ H' => ∃ (i : Nat) (w' : DSt) (o : Option Held) (rest : List (List (List Int))) (outs : List Int) (f : Nat) (v4 v5 v6 v7 v8 v9 v10 : Option V), σ = [some (.ref a), some (.ref D), some (.ref F0), some (.int (i : Int)), v4, v5, v6, v7, v8, v9, v10] ∧
      XIs F0 w' ∧ Same H H' ∧ H' F0 = some (.lst (outs.map V.int)) ∧ DkAt A D dD w' H' ∧ RelO w' o ∧ (∀ b ∈ foot D w', H b = none) ∧ F0 ∉ foot D w' ∧ i ≤ l.length ∧ m = l.length - i ∧ PyFlat.calls PyVamvsc.shape f (l.drop i) = some rest ∧ rest.all VamvscNeutral.asked1 = true ∧
      PyVamvsc.answers l = outs ++ PyFlat.told (PyFlat.played VamvscNeutral.step o rest),
    ⟨l.length, 0, none, none, raw, [], l.length, none, none, none, none, none, none, none, rfl, True.intro, e1.trans e2, hF2, hD2, .none, fun b hb => by rw [List.mem_singleton.mp hb]; exact hD, fun z => nFD (List.mem_singleton.mp z), Nat.zero_le _, rfl, q1, q2, q3⟩, ?_⟩
  rintro m σ H3 ⟨i, w', o, rest, outs, f, v4, v5, v6, v7, v8, v9, v10, rfl, xis, e3, hF3, d3, ro, hfoot, hnF, hi, rfl, hcalls, hall, hans⟩
  have ha3 := sq_mono e3 ha
  refine ⟨_, rfl, _, rfl, a, _, rfl, .inl (ha3), _, _, rfl, rfl, _, rfl, ?_⟩
  rw [List.length_map]
  by_cases c : i < l.length
  case neg =>
    refine iteF' (decide_eq_false (by omega)) ?_
    have ed : l.drop i = [] := List.drop_eq_nil_of_le (by omega)
    rw [ed] at hcalls
    have er : rest = [] := by
      cases f <;> (cases hcalls; rfl)
    rw [er] at hans
    have ea : PyVamvsc.answers l = outs := by
      rw [hans]
      show outs ++ [] = outs
      exact List.append_nil _
    refine ⟨_, rfl, ?_⟩
    exact k H3 F0 e3 (by rw [hF3, ea])
  refine iteT' (decide_eq_true (by omega)) ⟨_, fun _ _ h => h, ?_⟩
  obtain ⟨p, hp⟩ : ∃ p, l[i]? = some p := ⟨_, List.getElem?_eq_getElem c⟩
  have hdrop : l.drop i = p :: l.drop (i + 1) := by
    rw [List.drop_eq_getElem_cons c]
    congr 1
    exact (List.getElem?_eq_some_iff.mp hp).2
  rw [hdrop] at hcalls
  obtain ⟨f2, n, kn, xs, t, cs, s1, s2, s3, s4, s5⟩ := calls_step hcalls
  obtain ⟨cn, ad, hpc, had, hform, n2, k1⟩ := shape_forms T H3 s1
  subst hpc
  subst s5
  rw [List.length_drop] at s2
  rw [List.all_cons, Bool.and_eq_true] at hall
  -- call = calls[at]
  refine ⟨_, rfl, _, rfl, a, _, _, _, rfl, rfl, ha3, at_of rfl (map_at' hp), ?_⟩
  -- many, lists = FORMS[call]
  refine ⟨_, rfl, A.a_FORMS, _, _, _, rfl, rfl, T.w_FORMS _, at_of rfl had, ?_⟩
  refine ⟨ad, _, rfl, hform, rfl, _, _, rfl, _, _, rfl, rfl, ?_⟩
  -- end = at + 1 + many
  refine ⟨_, rfl, _, _, rfl, rfl, _, rfl, _, _, rfl, rfl, ?_⟩
  -- n = calls[at + 1:end]
  refine ⟨_, rfl, _, rfl, _, _, rfl, rfl, _, rfl, _, rfl, _, rfl, a, _, rfl, ha3, fun nl hnl => ?_⟩
  have ecut : cutV (l.map V.int) (some ((i : Int) + 1)) (some ((i : Int) + 1 + (n : Int))) = ((l.drop (i + 1)).take n).map V.int := by
    have := cut_nat (l.map V.int) (i := i + 1) (j := i + 1 + n) (by rw [List.length_map]; omega) (by rw [List.length_map]; omega)
    rw [show i + 1 + n - (i + 1) = n from by omega, ← List.map_drop, ← List.map_take] at this
    exact this
  rw [ecut]
  have e4 := Same.new (o := .lst (((l.drop (i + 1)).take n).map V.int)) hnl
  have hnl4 : upd H3 nl (.lst (((l.drop (i + 1)).take n).map V.int)) nl = some (.lst (((l.drop (i + 1)).take n).map V.int)) := upd_same
  generalize upd H3 nl (.lst (((l.drop (i + 1)).take n).map V.int)) = H4 at e4 hnl4 ⊢
  -- rows, at = rows_at(calls, end, lists)
  rw [List.drop_drop] at s3
  refine ⟨_, rfl, _, rfl, _, rfl, ?_⟩
  refine ⟨a, l, i + 1 + n, kn, xs, t, rfl, sq_mono e4 ha3, by omega, hl, by omega, s3, fun H5 q rp ras j e5 hq hrp pr hij hj ht => ?_⟩
  refine ⟨q, _, rfl, SqT.of hq, rfl, _, _, rfl, _, _, rfl, rfl, ?_⟩
  have e35 := e4.trans e5
  have d5 := DkAt.mono e35 d3
  have hD5 := d5.desk
  obtain ⟨fs, hDfs, v0, hfs⟩ := hD5
  subst hfs
  -- made = desk.answer(call, n, rows)
  refine ⟨_, rfl, D, _, _, rfl, hDfs, rfl, _, rfl, _, rfl, _, rfl, ?_⟩
  refine ⟨D, dD, nl, rp, F0, _, w', o, cn, (l.drop (i + 1)).take n, ras, xs, rfl, e35 _ _ hF3, xis, d5, ro, e5 _ _ hnl4, hrp, pr, hall.1, fun H6 w6 mp a0 ax a1 a2 a3 a4 a5 => ?_⟩
  have e6 : Same H H6 := fun b ob hb => a3 b ob (e35 _ _ (e3 _ _ hb)) fun z => by
    have := hfoot b z
    rw [hb] at this
    cases this
  have hF5 := e35 _ _ hF3
  have hF6 := a3 _ _ hF5 hnF
  have nF6 : F0 ∉ foot D w6 := fun z => by
    rcases a4 F0 z with y | y
    · exact hnF y
    · rw [hF5] at y; cases y
  have foot6 : ∀ b ∈ foot D w6, H b = none := fun b hb => by
    rcases a4 b hb with y | y
    · exact hfoot b y
    · exact (e3.trans e35).free y
  obtain ⟨made, hmade⟩ : ∃ made, made = (VamvscNeutral.step o (((cn : Int) :: (l.drop (i + 1)).take n) :: xs)).2 := ⟨_, rfl⟩
  rw [← hmade] at a5
  have hans2 : PyVamvsc.answers l = (outs ++ ((made.length : Int) :: made)) ++ PyFlat.told (PyFlat.played VamvscNeutral.step (VamvscNeutral.step o (((cn : Int) :: (l.drop (i + 1)).take n) :: xs)).1 cs) := by
    rw [hans, hmade, List.append_assoc]
    rfl
  have hsz : outs.length + (made.length + 1) ≤ 10000000 := by
    have := congrArg List.length hans2
    rw [List.length_append, List.length_append, List.length_cons] at this
    omega
  have npF : mp ≠ F0 := fun z => by
    obtain ⟨Hl, l1, l2⟩ := a0
    have := l1 _ _ hF5 hnF
    rw [← z, l2] at this
    cases this
  -- found.append(len(made))
  refine ⟨_, rfl, .inl ⟨rfl, _, SqL.of hF6⟩, ?_⟩
  refine ⟨_, rfl, mp, _, rfl, .inl (SqL.of a5), ?_⟩
  rw [List.length_map]
  refine ⟨F0, _, _, rfl, rfl, hF6, Nat.lt_of_le_of_lt (by rw [List.length_map]; omega : _ ≤ 10000000) (by decide), ?_⟩
  have d7 := DkAt.ext a1 ax nF6 (fun y => by cases y) (outs.map V.int ++ [V.int (made.length : Nat)])
  have d8 := DkAt.ext d7 ax nF6 (fun y => by cases y) (outs.map V.int ++ [V.int (made.length : Nat)] ++ made.map V.int)
  have hmp7 : (upd H6 F0 (.lst (outs.map V.int ++ [V.int (made.length : Nat)]))) mp = some (.lst (made.map V.int)) := (upd_ne npF).trans a5
  -- found.extend(made)
  refine ⟨_, rfl, .inl ⟨rfl, _, SqL.of upd_same⟩, ?_⟩
  refine ⟨_, rfl, F0, mp, _, _, rfl, rfl, upd_same, hmp7, Nat.le_trans (by rw [List.length_append, List.length_map, List.length_map]; show outs.length + 1 + made.length ≤ 10000000; omega) (by decide), ?_⟩
  refine ⟨l.length - j, by omega, j, w6, _, cs, outs ++ ((made.length : Int) :: made), f2, _, _, _, _, _, _, _, rfl, ax, ?_, ?_, d8, a2, foot6, nF6, hj, rfl, ?_, hall.2, hans2⟩
  · exact Same.mut (Same.mut e6 hF0H) hF0H
  · rw [upd_same, List.map_append, List.append_assoc]
    rfl
  · rw [ht]
    exact s4
end
end KR
end
section
set_option maxRecDepth 100000
set_option maxHeartbeats 4000000
/-! The end: what the top has written. Printed by genend.py. -/
namespace KR
open PySem PySem.Spec PyProof.Rows L2
open PySem.W (Codec)
theorem exm_self {K : PySem.W.Frag} {S : Addr} (h1 : PySem.W.subIn K (.ref S) (.type "BaseException") = some true) (h2 : PySem.W.isClsIn K S = true) (h3 : PySem.W.typeIn K (.ref S) = some (.type "type")) (h4 : PySem.W.subIn K (.ref S) (.ref S) = some true) :
    PySem.W.exmOne K (.ref S) (.ref S) = some true := by
  have e1 : (PySem.W.subIn K (.ref S) (.type "BaseException") == some true) = true := by rw [h1] <;> rfl
  have e2 : ((PySem.W.clsIn K S).isSome && PySem.W.typeIn K (.ref S) == some (.type "type")) = true := by
    have h2' : (PySem.W.clsIn K S).isSome = true := h2
    rw [h2', h3] <;> rfl
  show (if (PySem.W.subIn K (.ref S) (.type "BaseException") == some true) = true then (if ((PySem.W.clsIn K S).isSome && PySem.W.typeIn K (.ref S) == some (.type "type")) = true then PySem.W.subIn K (.ref S) (.ref S) else none) else none) = some true
  rw [if_pos e1, if_pos e2]
  exact h4
theorem tupI2 {K : PySem.W.Frag} {a : Addr} {od : Option Addr} {n : Nat} {sl : Array (Option Value)} {i j : Int} {t u : Tok} (l : K.lookup a = some ⟨.type "tuple", od, .seq #[.int i t, .int j u] n, sl⟩) (H : Hp) : SqT K H a [V.int i, V.int j] :=
  .inr ⟨_, #[.int i t, .int j u], n, l, rfl, rfl, (by show 2 ≤ sizeLine; decide), .cons ⟨_, rfl⟩ (.cons ⟨_, rfl⟩ .nil)⟩
theorem tupI3 {K : PySem.W.Frag} {a : Addr} {od : Option Addr} {n : Nat} {sl : Array (Option Value)} {i j k : Int} {t u v : Tok} (l : K.lookup a = some ⟨.type "tuple", od, .seq #[.int i t, .int j u, .int k v] n, sl⟩) (H : Hp) : SqT K H a [V.int i, V.int j, V.int k] :=
  .inr ⟨_, #[.int i t, .int j u, .int k v], n, l, rfl, rfl, (by show 3 ≤ sizeLine; decide), .cons ⟨_, rfl⟩ (.cons ⟨_, rfl⟩ (.cons ⟨_, rfl⟩ .nil))⟩
theorem tupS4 {K : PySem.W.Frag} {a : Addr} {od : Option Addr} {n : Nat} {sl : Array (Option Value)} {i j k m : Str} {t u v w : Tok} (l : K.lookup a = some ⟨.type "tuple", od, .seq #[.str i t, .str j u, .str k v, .str m w] n, sl⟩) (H : Hp) : SqT K H a [V.str i, V.str j, V.str k, V.str m] :=
  .inr ⟨_, #[.str i t, .str j u, .str k v, .str m w], n, l, rfl, rfl, (by show 4 ≤ sizeLine; decide), .cons ⟨_, rfl⟩ (.cons ⟨_, rfl⟩ (.cons ⟨_, rfl⟩ (.cons ⟨_, rfl⟩ .nil)))⟩
theorem tupR9 {K : PySem.W.Frag} {a : Addr} {od : Option Addr} {n : Nat} {sl : Array (Option Value)} {b0 b1 b2 b3 b4 b5 b6 b7 b8 : Addr} (l : K.lookup a = some ⟨.type "tuple", od, .seq #[.ref b0, .ref b1, .ref b2, .ref b3, .ref b4, .ref b5, .ref b6, .ref b7, .ref b8] n, sl⟩) (H : Hp) : SqT K H a [V.ref b0, V.ref b1, V.ref b2, V.ref b3, V.ref b4, V.ref b5, V.ref b6, V.ref b7, V.ref b8] :=
  .inr ⟨_, #[.ref b0, .ref b1, .ref b2, .ref b3, .ref b4, .ref b5, .ref b6, .ref b7, .ref b8], n, l, rfl, rfl, (by show 9 ≤ sizeLine; decide), .cons rfl (.cons rfl (.cons rfl (.cons rfl (.cons rfl (.cons rfl (.cons rfl (.cons rfl (.cons rfl .nil))))))))⟩
theorem fe_columns_of {K : PySem.W.Frag} {f : Addr} {od an : Option Addr} {sl : Array (Option Value)} {oc kV dc pm cd ct : Value} (l : K.lookup f = some ⟨oc, od, .func (PySem.W.fnOf "columns_of" "columns_of" (defArgs s_columns_of) (defBody s_columns_of) (defScope s_columns_of) .none kV dc pm an cd ct), sl⟩) (c : PySem.W.codeIn K cd "columns_of" = true) (k : PySem.W.keepIn K (.ref f) = true) : ∃ fd, Fun K "columns_of" "columns_of" s_columns_of f fd ∧ L2.Binds K fd P_columns_of [] :=
  ⟨_, fun_mk (st := s_columns_of) l c k, (fun_mk (st := s_columns_of) l c k).binds (ps := P_columns_of) fun _ _ _ _ _ _ us hl => match us, hl with | [_], _ => rfl⟩
theorem fe_has_all {K : PySem.W.Frag} {f : Addr} {od an : Option Addr} {sl : Array (Option Value)} {oc kV dc pm cd ct : Value} (l : K.lookup f = some ⟨oc, od, .func (PySem.W.fnOf "has_all" "has_all" (defArgs s_has_all) (defBody s_has_all) (defScope s_has_all) .none kV dc pm an cd ct), sl⟩) (c : PySem.W.codeIn K cd "has_all" = true) (k : PySem.W.keepIn K (.ref f) = true) : ∃ fd, Fun K "has_all" "has_all" s_has_all f fd ∧ L2.Binds K fd P_has_all [] :=
  ⟨_, fun_mk (st := s_has_all) l c k, (fun_mk (st := s_has_all) l c k).binds (ps := P_has_all) fun _ _ _ _ _ _ us hl => match us, hl with | [_, _], _ => rfl⟩
theorem fe_group_of {K : PySem.W.Frag} {f : Addr} {od an : Option Addr} {sl : Array (Option Value)} {oc kV dc pm cd ct : Value} (l : K.lookup f = some ⟨oc, od, .func (PySem.W.fnOf "group_of" "group_of" (defArgs s_group_of) (defBody s_group_of) (defScope s_group_of) .none kV dc pm an cd ct), sl⟩) (c : PySem.W.codeIn K cd "group_of" = true) (k : PySem.W.keepIn K (.ref f) = true) : ∃ fd, Fun K "group_of" "group_of" s_group_of f fd ∧ L2.Binds K fd P_group_of [] :=
  ⟨_, fun_mk (st := s_group_of) l c k, (fun_mk (st := s_group_of) l c k).binds (ps := P_group_of) fun _ _ _ _ _ _ us hl => match us, hl with | [_, _], _ => rfl⟩
theorem fe_with_more {K : PySem.W.Frag} {f : Addr} {od an : Option Addr} {sl : Array (Option Value)} {oc kV dc pm cd ct : Value} (l : K.lookup f = some ⟨oc, od, .func (PySem.W.fnOf "with_more" "with_more" (defArgs s_with_more) (defBody s_with_more) (defScope s_with_more) .none kV dc pm an cd ct), sl⟩) (c : PySem.W.codeIn K cd "with_more" = true) (k : PySem.W.keepIn K (.ref f) = true) : ∃ fd, Fun K "with_more" "with_more" s_with_more f fd ∧ L2.Binds K fd P_with_more [] :=
  ⟨_, fun_mk (st := s_with_more) l c k, (fun_mk (st := s_with_more) l c k).binds (ps := P_with_more) fun _ _ _ _ _ _ us hl => match us, hl with | [_, _, _, _], _ => rfl⟩
theorem fe_answer_of {K : PySem.W.Frag} {f : Addr} {od an : Option Addr} {sl : Array (Option Value)} {oc kV dc pm cd ct : Value} (l : K.lookup f = some ⟨oc, od, .func (PySem.W.fnOf "answer_of" "answer_of" (defArgs s_answer_of) (defBody s_answer_of) (defScope s_answer_of) .none kV dc pm an cd ct), sl⟩) (c : PySem.W.codeIn K cd "answer_of" = true) (k : PySem.W.keepIn K (.ref f) = true) : ∃ fd, Fun K "answer_of" "answer_of" s_answer_of f fd ∧ L2.Binds K fd P_answer_of [] :=
  ⟨_, fun_mk (st := s_answer_of) l c k, (fun_mk (st := s_answer_of) l c k).binds (ps := P_answer_of) fun _ _ _ _ _ _ us hl => match us, hl with | [_, _], _ => rfl⟩
theorem fe_worked_out {K : PySem.W.Frag} {f : Addr} {od an : Option Addr} {sl : Array (Option Value)} {oc kV dc pm cd ct : Value} (l : K.lookup f = some ⟨oc, od, .func (PySem.W.fnOf "worked_out" "worked_out" (defArgs s_worked_out) (defBody s_worked_out) (defScope s_worked_out) .none kV dc pm an cd ct), sl⟩) (c : PySem.W.codeIn K cd "worked_out" = true) (k : PySem.W.keepIn K (.ref f) = true) : ∃ fd, Fun K "worked_out" "worked_out" s_worked_out f fd ∧ L2.Binds K fd P_worked_out [] :=
  ⟨_, fun_mk (st := s_worked_out) l c k, (fun_mk (st := s_worked_out) l c k).binds (ps := P_worked_out) fun _ _ _ _ _ _ us hl => match us, hl with | [_, _, _], _ => rfl⟩
theorem fe_lines_told {K : PySem.W.Frag} {f : Addr} {od an : Option Addr} {sl : Array (Option Value)} {oc kV dc pm cd ct : Value} (l : K.lookup f = some ⟨oc, od, .func (PySem.W.fnOf "lines_told" "lines_told" (defArgs s_lines_told) (defBody s_lines_told) (defScope s_lines_told) .none kV dc pm an cd ct), sl⟩) (c : PySem.W.codeIn K cd "lines_told" = true) (k : PySem.W.keepIn K (.ref f) = true) : ∃ fd, Fun K "lines_told" "lines_told" s_lines_told f fd ∧ L2.Binds K fd P_lines_told [] :=
  ⟨_, fun_mk (st := s_lines_told) l c k, (fun_mk (st := s_lines_told) l c k).binds (ps := P_lines_told) fun _ _ _ _ _ _ us hl => match us, hl with | [_], _ => rfl⟩
theorem fe_Kept_init {K : PySem.W.Frag} {f : Addr} {od an : Option Addr} {sl : Array (Option Value)} {oc kV dc pm cd ct : Value} (l : K.lookup f = some ⟨oc, od, .func (PySem.W.fnOf "__init__" "Kept.__init__" (defArgs s_Kept_init) (defBody s_Kept_init) (defScope s_Kept_init) .none kV dc pm an cd ct), sl⟩) (c : PySem.W.codeIn K cd "Kept.__init__" = true) (k : PySem.W.keepIn K (.ref f) = true) : ∃ fd, Fun K "__init__" "Kept.__init__" s_Kept_init f fd ∧ L2.Binds K fd P_Kept_init [] :=
  ⟨_, fun_mk (st := s_Kept_init) l c k, (fun_mk (st := s_Kept_init) l c k).binds (ps := P_Kept_init) fun _ _ _ _ _ _ us hl => match us, hl with | [_, _, _], _ => rfl⟩
theorem fe_Store_init {K : PySem.W.Frag} {f : Addr} {od an : Option Addr} {sl : Array (Option Value)} {oc kV dc pm cd ct : Value} (l : K.lookup f = some ⟨oc, od, .func (PySem.W.fnOf "__init__" "Store.__init__" (defArgs s_Store_init) (defBody s_Store_init) (defScope s_Store_init) .none kV dc pm an cd ct), sl⟩) (c : PySem.W.codeIn K cd "Store.__init__" = true) (k : PySem.W.keepIn K (.ref f) = true) : ∃ fd, Fun K "__init__" "Store.__init__" s_Store_init f fd ∧ L2.Binds K fd P_Store_init [] :=
  ⟨_, fun_mk (st := s_Store_init) l c k, (fun_mk (st := s_Store_init) l c k).binds (ps := P_Store_init) fun _ _ _ _ _ _ us hl => match us, hl with | [_, _, _], _ => rfl⟩
theorem fe_Store_rows_now {K : PySem.W.Frag} {f : Addr} {od an : Option Addr} {sl : Array (Option Value)} {oc kV dc pm cd ct : Value} (l : K.lookup f = some ⟨oc, od, .func (PySem.W.fnOf "rows_now" "Store.rows_now" (defArgs s_Store_rows_now) (defBody s_Store_rows_now) (defScope s_Store_rows_now) .none kV dc pm an cd ct), sl⟩) (c : PySem.W.codeIn K cd "Store.rows_now" = true) (k : PySem.W.keepIn K (.ref f) = true) : ∃ fd, Fun K "rows_now" "Store.rows_now" s_Store_rows_now f fd ∧ L2.Binds K fd P_Store_rows_now [] :=
  ⟨_, fun_mk (st := s_Store_rows_now) l c k, (fun_mk (st := s_Store_rows_now) l c k).binds (ps := P_Store_rows_now) fun _ _ _ _ _ _ us hl => match us, hl with | [_], _ => rfl⟩
theorem fe_Store_is_grouping {K : PySem.W.Frag} {f : Addr} {od an : Option Addr} {sl : Array (Option Value)} {oc kV dc pm cd ct : Value} (l : K.lookup f = some ⟨oc, od, .func (PySem.W.fnOf "is_grouping" "Store.is_grouping" (defArgs s_Store_is_grouping) (defBody s_Store_is_grouping) (defScope s_Store_is_grouping) .none kV dc pm an cd ct), sl⟩) (c : PySem.W.codeIn K cd "Store.is_grouping" = true) (k : PySem.W.keepIn K (.ref f) = true) : ∃ fd, Fun K "is_grouping" "Store.is_grouping" s_Store_is_grouping f fd ∧ L2.Binds K fd P_Store_is_grouping [] :=
  ⟨_, fun_mk (st := s_Store_is_grouping) l c k, (fun_mk (st := s_Store_is_grouping) l c k).binds (ps := P_Store_is_grouping) fun _ _ _ _ _ _ us hl => match us, hl with | [_, _], _ => rfl⟩
theorem fe_Store_put {K : PySem.W.Frag} {f : Addr} {od an : Option Addr} {sl : Array (Option Value)} {oc kV dc pm cd ct : Value} (l : K.lookup f = some ⟨oc, od, .func (PySem.W.fnOf "put" "Store.put" (defArgs s_Store_put) (defBody s_Store_put) (defScope s_Store_put) .none kV dc pm an cd ct), sl⟩) (c : PySem.W.codeIn K cd "Store.put" = true) (k : PySem.W.keepIn K (.ref f) = true) : ∃ fd, Fun K "put" "Store.put" s_Store_put f fd ∧ L2.Binds K fd P_Store_put [] :=
  ⟨_, fun_mk (st := s_Store_put) l c k, (fun_mk (st := s_Store_put) l c k).binds (ps := P_Store_put) fun _ _ _ _ _ _ us hl => match us, hl with | [_, _], _ => rfl⟩
theorem fe_Store_take {K : PySem.W.Frag} {f : Addr} {od an : Option Addr} {sl : Array (Option Value)} {oc kV dc pm cd ct : Value} (l : K.lookup f = some ⟨oc, od, .func (PySem.W.fnOf "take" "Store.take" (defArgs s_Store_take) (defBody s_Store_take) (defScope s_Store_take) .none kV dc pm an cd ct), sl⟩) (c : PySem.W.codeIn K cd "Store.take" = true) (k : PySem.W.keepIn K (.ref f) = true) : ∃ fd, Fun K "take" "Store.take" s_Store_take f fd ∧ L2.Binds K fd P_Store_take [] :=
  ⟨_, fun_mk (st := s_Store_take) l c k, (fun_mk (st := s_Store_take) l c k).binds (ps := P_Store_take) fun _ _ _ _ _ _ us hl => match us, hl with | [_, _], _ => rfl⟩
theorem fe_Store_keep {K : PySem.W.Frag} {f : Addr} {od an : Option Addr} {sl : Array (Option Value)} {oc kV dc pm cd ct : Value} (l : K.lookup f = some ⟨oc, od, .func (PySem.W.fnOf "keep" "Store.keep" (defArgs s_Store_keep) (defBody s_Store_keep) (defScope s_Store_keep) .none kV dc pm an cd ct), sl⟩) (c : PySem.W.codeIn K cd "Store.keep" = true) (k : PySem.W.keepIn K (.ref f) = true) : ∃ fd, Fun K "keep" "Store.keep" s_Store_keep f fd ∧ L2.Binds K fd P_Store_keep [] :=
  ⟨_, fun_mk (st := s_Store_keep) l c k, (fun_mk (st := s_Store_keep) l c k).binds (ps := P_Store_keep) fun _ _ _ _ _ _ us hl => match us, hl with | [_, _], _ => rfl⟩
theorem fe_Store_age {K : PySem.W.Frag} {f : Addr} {od an : Option Addr} {sl : Array (Option Value)} {oc kV dc pm cd ct : Value} (l : K.lookup f = some ⟨oc, od, .func (PySem.W.fnOf "age" "Store.age" (defArgs s_Store_age) (defBody s_Store_age) (defScope s_Store_age) .none kV dc pm an cd ct), sl⟩) (c : PySem.W.codeIn K cd "Store.age" = true) (k : PySem.W.keepIn K (.ref f) = true) : ∃ fd, Fun K "age" "Store.age" s_Store_age f fd ∧ L2.Binds K fd P_Store_age [] :=
  ⟨_, fun_mk (st := s_Store_age) l c k, (fun_mk (st := s_Store_age) l c k).binds (ps := P_Store_age) fun _ _ _ _ _ _ us hl => match us, hl with | [_, _], _ => rfl⟩
theorem fe_Store_since {K : PySem.W.Frag} {f : Addr} {od an : Option Addr} {sl : Array (Option Value)} {oc kV dc pm cd ct : Value} (l : K.lookup f = some ⟨oc, od, .func (PySem.W.fnOf "since" "Store.since" (defArgs s_Store_since) (defBody s_Store_since) (defScope s_Store_since) .none kV dc pm an cd ct), sl⟩) (c : PySem.W.codeIn K cd "Store.since" = true) (k : PySem.W.keepIn K (.ref f) = true) : ∃ fd, Fun K "since" "Store.since" s_Store_since f fd ∧ L2.Binds K fd P_Store_since [] :=
  ⟨_, fun_mk (st := s_Store_since) l c k, (fun_mk (st := s_Store_since) l c k).binds (ps := P_Store_since) fun _ _ _ _ _ _ us hl => match us, hl with | [_, _], _ => rfl⟩
theorem fe_Store_touched {K : PySem.W.Frag} {f : Addr} {od an : Option Addr} {sl : Array (Option Value)} {oc kV dc pm cd ct : Value} (l : K.lookup f = some ⟨oc, od, .func (PySem.W.fnOf "touched" "Store.touched" (defArgs s_Store_touched) (defBody s_Store_touched) (defScope s_Store_touched) .none kV dc pm an cd ct), sl⟩) (c : PySem.W.codeIn K cd "Store.touched" = true) (k : PySem.W.keepIn K (.ref f) = true) : ∃ fd, Fun K "touched" "Store.touched" s_Store_touched f fd ∧ L2.Binds K fd P_Store_touched [] :=
  ⟨_, fun_mk (st := s_Store_touched) l c k, (fun_mk (st := s_Store_touched) l c k).binds (ps := P_Store_touched) fun _ _ _ _ _ _ us hl => match us, hl with | [_, _, _], _ => rfl⟩
theorem fe_Store_refresh {K : PySem.W.Frag} {f : Addr} {od an : Option Addr} {sl : Array (Option Value)} {oc kV dc pm cd ct : Value} (l : K.lookup f = some ⟨oc, od, .func (PySem.W.fnOf "refresh" "Store.refresh" (defArgs s_Store_refresh) (defBody s_Store_refresh) (defScope s_Store_refresh) .none kV dc pm an cd ct), sl⟩) (c : PySem.W.codeIn K cd "Store.refresh" = true) (k : PySem.W.keepIn K (.ref f) = true) : ∃ fd, Fun K "refresh" "Store.refresh" s_Store_refresh f fd ∧ L2.Binds K fd P_Store_refresh [] :=
  ⟨_, fun_mk (st := s_Store_refresh) l c k, (fun_mk (st := s_Store_refresh) l c k).binds (ps := P_Store_refresh) fun _ _ _ _ _ _ us hl => match us, hl with | [_, _], _ => rfl⟩
theorem fe_Store_lines {K : PySem.W.Frag} {f : Addr} {od an : Option Addr} {sl : Array (Option Value)} {oc kV dc pm cd ct : Value} (l : K.lookup f = some ⟨oc, od, .func (PySem.W.fnOf "lines" "Store.lines" (defArgs s_Store_lines) (defBody s_Store_lines) (defScope s_Store_lines) .none kV dc pm an cd ct), sl⟩) (c : PySem.W.codeIn K cd "Store.lines" = true) (k : PySem.W.keepIn K (.ref f) = true) : ∃ fd, Fun K "lines" "Store.lines" s_Store_lines f fd ∧ L2.Binds K fd P_Store_lines [] :=
  ⟨_, fun_mk (st := s_Store_lines) l c k, (fun_mk (st := s_Store_lines) l c k).binds (ps := P_Store_lines) fun _ _ _ _ _ _ us hl => match us, hl with | [_, _], _ => rfl⟩
theorem fe_Store_read_from {K : PySem.W.Frag} {f : Addr} {od an : Option Addr} {sl : Array (Option Value)} {oc kV dc pm cd ct : Value} (l : K.lookup f = some ⟨oc, od, .func (PySem.W.fnOf "read_from" "Store.read_from" (defArgs s_Store_read_from) (defBody s_Store_read_from) (defScope s_Store_read_from) .none kV dc pm an cd ct), sl⟩) (c : PySem.W.codeIn K cd "Store.read_from" = true) (k : PySem.W.keepIn K (.ref f) = true) : ∃ fd, Fun K "read_from" "Store.read_from" s_Store_read_from f fd ∧ L2.Binds K fd P_Store_read_from [] :=
  ⟨_, fun_mk (st := s_Store_read_from) l c k, (fun_mk (st := s_Store_read_from) l c k).binds (ps := P_Store_read_from) fun _ _ _ _ _ _ us hl => match us, hl with | [_, _, _], _ => rfl⟩
theorem fe_Store_answer_from {K : PySem.W.Frag} {f : Addr} {od an : Option Addr} {sl : Array (Option Value)} {oc kV dc pm cd ct : Value} (l : K.lookup f = some ⟨oc, od, .func (PySem.W.fnOf "answer_from" "Store.answer_from" (defArgs s_Store_answer_from) (defBody s_Store_answer_from) (defScope s_Store_answer_from) .none kV dc pm an cd ct), sl⟩) (c : PySem.W.codeIn K cd "Store.answer_from" = true) (k : PySem.W.keepIn K (.ref f) = true) : ∃ fd, Fun K "answer_from" "Store.answer_from" s_Store_answer_from f fd ∧ L2.Binds K fd P_Store_answer_from [] :=
  ⟨_, fun_mk (st := s_Store_answer_from) l c k, (fun_mk (st := s_Store_answer_from) l c k).binds (ps := P_Store_answer_from) fun _ _ _ _ _ _ us hl => match us, hl with | [_, _, _], _ => rfl⟩
theorem fe_Store_cheapest {K : PySem.W.Frag} {f : Addr} {od an : Option Addr} {sl : Array (Option Value)} {oc kV dc pm cd ct : Value} (l : K.lookup f = some ⟨oc, od, .func (PySem.W.fnOf "cheapest" "Store.cheapest" (defArgs s_Store_cheapest) (defBody s_Store_cheapest) (defScope s_Store_cheapest) .none kV dc pm an cd ct), sl⟩) (c : PySem.W.codeIn K cd "Store.cheapest" = true) (k : PySem.W.keepIn K (.ref f) = true) : ∃ fd, Fun K "cheapest" "Store.cheapest" s_Store_cheapest f fd ∧ L2.Binds K fd P_Store_cheapest [] :=
  ⟨_, fun_mk (st := s_Store_cheapest) l c k, (fun_mk (st := s_Store_cheapest) l c k).binds (ps := P_Store_cheapest) fun _ _ _ _ _ _ us hl => match us, hl with | [_, _], _ => rfl⟩
theorem fe_Fault_init {K : PySem.W.Frag} {f : Addr} {od an : Option Addr} {sl : Array (Option Value)} {oc kV dc pm cd ct : Value} (l : K.lookup f = some ⟨oc, od, .func (PySem.W.fnOf "__init__" "Fault.__init__" (defArgs s_Fault_init) (defBody s_Fault_init) (defScope s_Fault_init) .none kV dc pm an cd ct), sl⟩) (c : PySem.W.codeIn K cd "Fault.__init__" = true) (k : PySem.W.keepIn K (.ref f) = true) : ∃ fd, Fun K "__init__" "Fault.__init__" s_Fault_init f fd ∧ L2.Binds K fd P_Fault_init [] :=
  ⟨_, fun_mk (st := s_Fault_init) l c k, (fun_mk (st := s_Fault_init) l c k).binds (ps := P_Fault_init) fun _ _ _ _ _ _ us hl => match us, hl with | [_, _, _], _ => rfl⟩
theorem fe_sign_of {K : PySem.W.Frag} {f : Addr} {od an : Option Addr} {sl : Array (Option Value)} {oc kV dc pm cd ct : Value} (l : K.lookup f = some ⟨oc, od, .func (PySem.W.fnOf "sign_of" "sign_of" (defArgs s_sign_of) (defBody s_sign_of) (defScope s_sign_of) .none kV dc pm an cd ct), sl⟩) (c : PySem.W.codeIn K cd "sign_of" = true) (k : PySem.W.keepIn K (.ref f) = true) : ∃ fd, Fun K "sign_of" "sign_of" s_sign_of f fd ∧ L2.Binds K fd P_sign_of [] :=
  ⟨_, fun_mk (st := s_sign_of) l c k, (fun_mk (st := s_sign_of) l c k).binds (ps := P_sign_of) fun _ _ _ _ _ _ us hl => match us, hl with | [_], _ => rfl⟩
theorem fe_run_end {K : PySem.W.Frag} {f : Addr} {od an : Option Addr} {sl : Array (Option Value)} {oc kV dc pm cd ct : Value} (l : K.lookup f = some ⟨oc, od, .func (PySem.W.fnOf "run_end" "run_end" (defArgs s_run_end) (defBody s_run_end) (defScope s_run_end) .none kV dc pm an cd ct), sl⟩) (c : PySem.W.codeIn K cd "run_end" = true) (k : PySem.W.keepIn K (.ref f) = true) : ∃ fd, Fun K "run_end" "run_end" s_run_end f fd ∧ L2.Binds K fd P_run_end [] :=
  ⟨_, fun_mk (st := s_run_end) l c k, (fun_mk (st := s_run_end) l c k).binds (ps := P_run_end) fun _ _ _ _ _ _ us hl => match us, hl with | [_, _, _], _ => rfl⟩
theorem fe_remark_end {K : PySem.W.Frag} {f : Addr} {od an : Option Addr} {sl : Array (Option Value)} {oc kV dc pm cd ct : Value} (l : K.lookup f = some ⟨oc, od, .func (PySem.W.fnOf "remark_end" "remark_end" (defArgs s_remark_end) (defBody s_remark_end) (defScope s_remark_end) .none kV dc pm an cd ct), sl⟩) (c : PySem.W.codeIn K cd "remark_end" = true) (k : PySem.W.keepIn K (.ref f) = true) : ∃ fd, Fun K "remark_end" "remark_end" s_remark_end f fd ∧ L2.Binds K fd P_remark_end [] :=
  ⟨_, fun_mk (st := s_remark_end) l c k, (fun_mk (st := s_remark_end) l c k).binds (ps := P_remark_end) fun _ _ _ _ _ _ us hl => match us, hl with | [_, _], _ => rfl⟩
theorem fe_worth_of {K : PySem.W.Frag} {f : Addr} {od an : Option Addr} {sl : Array (Option Value)} {oc kV dc pm cd ct : Value} (l : K.lookup f = some ⟨oc, od, .func (PySem.W.fnOf "worth_of" "worth_of" (defArgs s_worth_of) (defBody s_worth_of) (defScope s_worth_of) .none kV dc pm an cd ct), sl⟩) (c : PySem.W.codeIn K cd "worth_of" = true) (k : PySem.W.keepIn K (.ref f) = true) : ∃ fd, Fun K "worth_of" "worth_of" s_worth_of f fd ∧ L2.Binds K fd P_worth_of [] :=
  ⟨_, fun_mk (st := s_worth_of) l c k, (fun_mk (st := s_worth_of) l c k).binds (ps := P_worth_of) fun _ _ _ _ _ _ us hl => match us, hl with | [_], _ => rfl⟩
theorem fe_number_at {K : PySem.W.Frag} {f : Addr} {od an : Option Addr} {sl : Array (Option Value)} {oc kV dc pm cd ct : Value} (l : K.lookup f = some ⟨oc, od, .func (PySem.W.fnOf "number_at" "number_at" (defArgs s_number_at) (defBody s_number_at) (defScope s_number_at) .none kV dc pm an cd ct), sl⟩) (c : PySem.W.codeIn K cd "number_at" = true) (k : PySem.W.keepIn K (.ref f) = true) : ∃ fd, Fun K "number_at" "number_at" s_number_at f fd ∧ L2.Binds K fd P_number_at [] :=
  ⟨_, fun_mk (st := s_number_at) l c k, (fun_mk (st := s_number_at) l c k).binds (ps := P_number_at) fun _ _ _ _ _ _ us hl => match us, hl with | [_, _], _ => rfl⟩
theorem fe_token_at {K : PySem.W.Frag} {f : Addr} {od an : Option Addr} {sl : Array (Option Value)} {oc kV dc pm cd ct : Value} (l : K.lookup f = some ⟨oc, od, .func (PySem.W.fnOf "token_at" "token_at" (defArgs s_token_at) (defBody s_token_at) (defScope s_token_at) .none kV dc pm an cd ct), sl⟩) (c : PySem.W.codeIn K cd "token_at" = true) (k : PySem.W.keepIn K (.ref f) = true) : ∃ fd, Fun K "token_at" "token_at" s_token_at f fd ∧ L2.Binds K fd P_token_at [] :=
  ⟨_, fun_mk (st := s_token_at) l c k, (fun_mk (st := s_token_at) l c k).binds (ps := P_token_at) fun _ _ _ _ _ _ us hl => match us, hl with | [_, _], _ => rfl⟩
theorem fe_tokens_of {K : PySem.W.Frag} {f : Addr} {od an : Option Addr} {sl : Array (Option Value)} {oc kV dc pm cd ct : Value} (l : K.lookup f = some ⟨oc, od, .func (PySem.W.fnOf "tokens_of" "tokens_of" (defArgs s_tokens_of) (defBody s_tokens_of) (defScope s_tokens_of) .none kV dc pm an cd ct), sl⟩) (c : PySem.W.codeIn K cd "tokens_of" = true) (k : PySem.W.keepIn K (.ref f) = true) : ∃ fd, Fun K "tokens_of" "tokens_of" s_tokens_of f fd ∧ L2.Binds K fd P_tokens_of [] :=
  ⟨_, fun_mk (st := s_tokens_of) l c k, (fun_mk (st := s_tokens_of) l c k).binds (ps := P_tokens_of) fun _ _ _ _ _ _ us hl => match us, hl with | [_], _ => rfl⟩
theorem fe_Table_init {K : PySem.W.Frag} {f : Addr} {od an : Option Addr} {sl : Array (Option Value)} {oc kV dc pm cd ct : Value} (l : K.lookup f = some ⟨oc, od, .func (PySem.W.fnOf "__init__" "Table.__init__" (defArgs s_Table_init) (defBody s_Table_init) (defScope s_Table_init) .none kV dc pm an cd ct), sl⟩) (c : PySem.W.codeIn K cd "Table.__init__" = true) (k : PySem.W.keepIn K (.ref f) = true) : ∃ fd, Fun K "__init__" "Table.__init__" s_Table_init f fd ∧ L2.Binds K fd P_Table_init [] :=
  ⟨_, fun_mk (st := s_Table_init) l c k, (fun_mk (st := s_Table_init) l c k).binds (ps := P_Table_init) fun _ _ _ _ _ _ us hl => match us, hl with | [_], _ => rfl⟩
theorem fe_Reader_init {K : PySem.W.Frag} {f : Addr} {od an : Option Addr} {sl : Array (Option Value)} {oc kV dc pm cd ct : Value} (l : K.lookup f = some ⟨oc, od, .func (PySem.W.fnOf "__init__" "Reader.__init__" (defArgs s_Reader_init) (defBody s_Reader_init) (defScope s_Reader_init) .none kV dc pm an cd ct), sl⟩) (c : PySem.W.codeIn K cd "Reader.__init__" = true) (k : PySem.W.keepIn K (.ref f) = true) : ∃ fd, Fun K "__init__" "Reader.__init__" s_Reader_init f fd ∧ L2.Binds K fd P_Reader_init [] :=
  ⟨_, fun_mk (st := s_Reader_init) l c k, (fun_mk (st := s_Reader_init) l c k).binds (ps := P_Reader_init) fun _ _ _ _ _ _ us hl => match us, hl with | [_, _], _ => rfl⟩
theorem fe_Reader_comes {K : PySem.W.Frag} {f : Addr} {od an : Option Addr} {sl : Array (Option Value)} {oc kV dc pm cd ct : Value} (l : K.lookup f = some ⟨oc, od, .func (PySem.W.fnOf "comes" "Reader.comes" (defArgs s_Reader_comes) (defBody s_Reader_comes) (defScope s_Reader_comes) .none kV dc pm an cd ct), sl⟩) (c : PySem.W.codeIn K cd "Reader.comes" = true) (k : PySem.W.keepIn K (.ref f) = true) : ∃ fd, Fun K "comes" "Reader.comes" s_Reader_comes f fd ∧ L2.Binds K fd P_Reader_comes [] :=
  ⟨_, fun_mk (st := s_Reader_comes) l c k, (fun_mk (st := s_Reader_comes) l c k).binds (ps := P_Reader_comes) fun _ _ _ _ _ _ us hl => match us, hl with | [_, _, _], _ => rfl⟩
theorem fe_Reader_want {K : PySem.W.Frag} {f : Addr} {od an : Option Addr} {sl : Array (Option Value)} {oc kV dc pm cd ct : Value} (l : K.lookup f = some ⟨oc, od, .func (PySem.W.fnOf "want" "Reader.want" (defArgs s_Reader_want) (defBody s_Reader_want) (defScope s_Reader_want) .none kV dc pm an cd ct), sl⟩) (c : PySem.W.codeIn K cd "Reader.want" = true) (k : PySem.W.keepIn K (.ref f) = true) : ∃ fd, Fun K "want" "Reader.want" s_Reader_want f fd ∧ L2.Binds K fd P_Reader_want [] :=
  ⟨_, fun_mk (st := s_Reader_want) l c k, (fun_mk (st := s_Reader_want) l c k).binds (ps := P_Reader_want) fun _ _ _ _ _ _ us hl => match us, hl with | [_, _, _], _ => rfl⟩
theorem fe_Reader_take {K : PySem.W.Frag} {f : Addr} {od an : Option Addr} {sl : Array (Option Value)} {oc kV dc pm cd ct : Value} (l : K.lookup f = some ⟨oc, od, .func (PySem.W.fnOf "take" "Reader.take" (defArgs s_Reader_take) (defBody s_Reader_take) (defScope s_Reader_take) .none kV dc pm an cd ct), sl⟩) (c : PySem.W.codeIn K cd "Reader.take" = true) (k : PySem.W.keepIn K (.ref f) = true) : ∃ fd, Fun K "take" "Reader.take" s_Reader_take f fd ∧ L2.Binds K fd P_Reader_take [] :=
  ⟨_, fun_mk (st := s_Reader_take) l c k, (fun_mk (st := s_Reader_take) l c k).binds (ps := P_Reader_take) fun _ _ _ _ _ _ us hl => match us, hl with | [_], _ => rfl⟩
theorem fe_Reader_read {K : PySem.W.Frag} {f : Addr} {od an : Option Addr} {sl : Array (Option Value)} {oc kV dc pm cd ct : Value} (l : K.lookup f = some ⟨oc, od, .func (PySem.W.fnOf "read" "Reader.read" (defArgs s_Reader_read) (defBody s_Reader_read) (defScope s_Reader_read) .none kV dc pm an cd ct), sl⟩) (c : PySem.W.codeIn K cd "Reader.read" = true) (k : PySem.W.keepIn K (.ref f) = true) : ∃ fd, Fun K "read" "Reader.read" s_Reader_read f fd ∧ L2.Binds K fd P_Reader_read [] :=
  ⟨_, fun_mk (st := s_Reader_read) l c k, (fun_mk (st := s_Reader_read) l c k).binds (ps := P_Reader_read) fun _ _ _ _ _ _ us hl => match us, hl with | [_, _, _], _ => rfl⟩
theorem fe_Reader_next_name {K : PySem.W.Frag} {f : Addr} {od an : Option Addr} {sl : Array (Option Value)} {oc kV dc pm cd ct : Value} (l : K.lookup f = some ⟨oc, od, .func (PySem.W.fnOf "next_name" "Reader.next_name" (defArgs s_Reader_next_name) (defBody s_Reader_next_name) (defScope s_Reader_next_name) .none kV dc pm an cd ct), sl⟩) (c : PySem.W.codeIn K cd "Reader.next_name" = true) (k : PySem.W.keepIn K (.ref f) = true) : ∃ fd, Fun K "next_name" "Reader.next_name" s_Reader_next_name f fd ∧ L2.Binds K fd P_Reader_next_name [] :=
  ⟨_, fun_mk (st := s_Reader_next_name) l c k, (fun_mk (st := s_Reader_next_name) l c k).binds (ps := P_Reader_next_name) fun _ _ _ _ _ _ us hl => match us, hl with | [_], _ => rfl⟩
theorem fe_Reader_read_number {K : PySem.W.Frag} {f : Addr} {od an : Option Addr} {sl : Array (Option Value)} {oc kV dc pm cd ct : Value} (l : K.lookup f = some ⟨oc, od, .func (PySem.W.fnOf "read_number" "Reader.read_number" (defArgs s_Reader_read_number) (defBody s_Reader_read_number) (defScope s_Reader_read_number) .none kV dc pm an cd ct), sl⟩) (c : PySem.W.codeIn K cd "Reader.read_number" = true) (k : PySem.W.keepIn K (.ref f) = true) : ∃ fd, Fun K "read_number" "Reader.read_number" s_Reader_read_number f fd ∧ L2.Binds K fd P_Reader_read_number [] :=
  ⟨_, fun_mk (st := s_Reader_read_number) l c k, (fun_mk (st := s_Reader_read_number) l c k).binds (ps := P_Reader_read_number) fun _ _ _ _ _ _ us hl => match us, hl with | [_, _, _], _ => rfl⟩
theorem fe_Reader_begin {K : PySem.W.Frag} {f : Addr} {od an : Option Addr} {sl : Array (Option Value)} {oc kV dc pm cd ct : Value} (l : K.lookup f = some ⟨oc, od, .func (PySem.W.fnOf "begin" "Reader.begin" (defArgs s_Reader_begin) (defBody s_Reader_begin) (defScope s_Reader_begin) .none kV dc pm an cd ct), sl⟩) (c : PySem.W.codeIn K cd "Reader.begin" = true) (k : PySem.W.keepIn K (.ref f) = true) : ∃ fd, Fun K "begin" "Reader.begin" s_Reader_begin f fd ∧ L2.Binds K fd P_Reader_begin [] :=
  ⟨_, fun_mk (st := s_Reader_begin) l c k, (fun_mk (st := s_Reader_begin) l c k).binds (ps := P_Reader_begin) fun _ _ _ _ _ _ us hl => match us, hl with | [_, _, _], _ => rfl⟩
theorem fe_Reader_column {K : PySem.W.Frag} {f : Addr} {od an : Option Addr} {sl : Array (Option Value)} {oc kV dc pm cd ct : Value} (l : K.lookup f = some ⟨oc, od, .func (PySem.W.fnOf "column" "Reader.column" (defArgs s_Reader_column) (defBody s_Reader_column) (defScope s_Reader_column) .none kV dc pm an cd ct), sl⟩) (c : PySem.W.codeIn K cd "Reader.column" = true) (k : PySem.W.keepIn K (.ref f) = true) : ∃ fd, Fun K "column" "Reader.column" s_Reader_column f fd ∧ L2.Binds K fd P_Reader_column [] :=
  ⟨_, fun_mk (st := s_Reader_column) l c k, (fun_mk (st := s_Reader_column) l c k).binds (ps := P_Reader_column) fun _ _ _ _ _ _ us hl => match us, hl with | [_], _ => rfl⟩
theorem fe_Reader_all_columns {K : PySem.W.Frag} {f : Addr} {od an : Option Addr} {sl : Array (Option Value)} {oc kV dc pm cd ct : Value} (l : K.lookup f = some ⟨oc, od, .func (PySem.W.fnOf "all_columns" "Reader.all_columns" (defArgs s_Reader_all_columns) (defBody s_Reader_all_columns) (defScope s_Reader_all_columns) .none kV dc pm an cd ct), sl⟩) (c : PySem.W.codeIn K cd "Reader.all_columns" = true) (k : PySem.W.keepIn K (.ref f) = true) : ∃ fd, Fun K "all_columns" "Reader.all_columns" s_Reader_all_columns f fd ∧ L2.Binds K fd P_Reader_all_columns [] :=
  ⟨_, fun_mk (st := s_Reader_all_columns) l c k, (fun_mk (st := s_Reader_all_columns) l c k).binds (ps := P_Reader_all_columns) fun _ _ _ _ _ _ us hl => match us, hl with | [_], _ => rfl⟩
theorem fe_Reader_summed {K : PySem.W.Frag} {f : Addr} {od an : Option Addr} {sl : Array (Option Value)} {oc kV dc pm cd ct : Value} (l : K.lookup f = some ⟨oc, od, .func (PySem.W.fnOf "summed" "Reader.summed" (defArgs s_Reader_summed) (defBody s_Reader_summed) (defScope s_Reader_summed) .none kV dc pm an cd ct), sl⟩) (c : PySem.W.codeIn K cd "Reader.summed" = true) (k : PySem.W.keepIn K (.ref f) = true) : ∃ fd, Fun K "summed" "Reader.summed" s_Reader_summed f fd ∧ L2.Binds K fd P_Reader_summed [] :=
  ⟨_, fun_mk (st := s_Reader_summed) l c k, (fun_mk (st := s_Reader_summed) l c k).binds (ps := P_Reader_summed) fun _ _ _ _ _ _ us hl => match us, hl with | [_], _ => rfl⟩
theorem fe_Reader_row {K : PySem.W.Frag} {f : Addr} {od an : Option Addr} {sl : Array (Option Value)} {oc kV dc pm cd ct : Value} (l : K.lookup f = some ⟨oc, od, .func (PySem.W.fnOf "row" "Reader.row" (defArgs s_Reader_row) (defBody s_Reader_row) (defScope s_Reader_row) .none kV dc pm an cd ct), sl⟩) (c : PySem.W.codeIn K cd "Reader.row" = true) (k : PySem.W.keepIn K (.ref f) = true) : ∃ fd, Fun K "row" "Reader.row" s_Reader_row f fd ∧ L2.Binds K fd P_Reader_row [] :=
  ⟨_, fun_mk (st := s_Reader_row) l c k, (fun_mk (st := s_Reader_row) l c k).binds (ps := P_Reader_row) fun _ _ _ _ _ _ us hl => match us, hl with | [_], _ => rfl⟩
theorem fe_Reader_asked_column {K : PySem.W.Frag} {f : Addr} {od an : Option Addr} {sl : Array (Option Value)} {oc kV dc pm cd ct : Value} (l : K.lookup f = some ⟨oc, od, .func (PySem.W.fnOf "asked_column" "Reader.asked_column" (defArgs s_Reader_asked_column) (defBody s_Reader_asked_column) (defScope s_Reader_asked_column) .none kV dc pm an cd ct), sl⟩) (c : PySem.W.codeIn K cd "Reader.asked_column" = true) (k : PySem.W.keepIn K (.ref f) = true) : ∃ fd, Fun K "asked_column" "Reader.asked_column" s_Reader_asked_column f fd ∧ L2.Binds K fd P_Reader_asked_column [] :=
  ⟨_, fun_mk (st := s_Reader_asked_column) l c k, (fun_mk (st := s_Reader_asked_column) l c k).binds (ps := P_Reader_asked_column) fun _ _ _ _ _ _ us hl => match us, hl with | [_, _], _ => rfl⟩
theorem fe_Reader_asked_columns {K : PySem.W.Frag} {f : Addr} {od an : Option Addr} {sl : Array (Option Value)} {oc kV dc pm cd ct : Value} (l : K.lookup f = some ⟨oc, od, .func (PySem.W.fnOf "asked_columns" "Reader.asked_columns" (defArgs s_Reader_asked_columns) (defBody s_Reader_asked_columns) (defScope s_Reader_asked_columns) .none kV dc pm an cd ct), sl⟩) (c : PySem.W.codeIn K cd "Reader.asked_columns" = true) (k : PySem.W.keepIn K (.ref f) = true) : ∃ fd, Fun K "asked_columns" "Reader.asked_columns" s_Reader_asked_columns f fd ∧ L2.Binds K fd P_Reader_asked_columns [] :=
  ⟨_, fun_mk (st := s_Reader_asked_columns) l c k, (fun_mk (st := s_Reader_asked_columns) l c k).binds (ps := P_Reader_asked_columns) fun _ _ _ _ _ _ us hl => match us, hl with | [_], _ => rfl⟩
theorem fe_Reader_question {K : PySem.W.Frag} {f : Addr} {od an : Option Addr} {sl : Array (Option Value)} {oc kV dc pm cd ct : Value} (l : K.lookup f = some ⟨oc, od, .func (PySem.W.fnOf "question" "Reader.question" (defArgs s_Reader_question) (defBody s_Reader_question) (defScope s_Reader_question) .none kV dc pm an cd ct), sl⟩) (c : PySem.W.codeIn K cd "Reader.question" = true) (k : PySem.W.keepIn K (.ref f) = true) : ∃ fd, Fun K "question" "Reader.question" s_Reader_question f fd ∧ L2.Binds K fd P_Reader_question [] :=
  ⟨_, fun_mk (st := s_Reader_question) l c k, (fun_mk (st := s_Reader_question) l c k).binds (ps := P_Reader_question) fun _ _ _ _ _ _ us hl => match us, hl with | [_], _ => rfl⟩
theorem fe_Reader_whole {K : PySem.W.Frag} {f : Addr} {od an : Option Addr} {sl : Array (Option Value)} {oc kV dc pm cd ct : Value} (l : K.lookup f = some ⟨oc, od, .func (PySem.W.fnOf "whole" "Reader.whole" (defArgs s_Reader_whole) (defBody s_Reader_whole) (defScope s_Reader_whole) .none kV dc pm an cd ct), sl⟩) (c : PySem.W.codeIn K cd "Reader.whole" = true) (k : PySem.W.keepIn K (.ref f) = true) : ∃ fd, Fun K "whole" "Reader.whole" s_Reader_whole f fd ∧ L2.Binds K fd P_Reader_whole [] :=
  ⟨_, fun_mk (st := s_Reader_whole) l c k, (fun_mk (st := s_Reader_whole) l c k).binds (ps := P_Reader_whole) fun _ _ _ _ _ _ us hl => match us, hl with | [_], _ => rfl⟩
theorem fe_read_table {K : PySem.W.Frag} {f : Addr} {od an : Option Addr} {sl : Array (Option Value)} {oc kV dc pm cd ct : Value} (l : K.lookup f = some ⟨oc, od, .func (PySem.W.fnOf "read_table" "read_table" (defArgs s_read_table) (defBody s_read_table) (defScope s_read_table) .none kV dc pm an cd ct), sl⟩) (c : PySem.W.codeIn K cd "read_table" = true) (k : PySem.W.keepIn K (.ref f) = true) : ∃ fd, Fun K "read_table" "read_table" s_read_table f fd ∧ L2.Binds K fd P_read_table [] :=
  ⟨_, fun_mk (st := s_read_table) l c k, (fun_mk (st := s_read_table) l c k).binds (ps := P_read_table) fun _ _ _ _ _ _ us hl => match us, hl with | [_], _ => rfl⟩
theorem fe_Refused_init {K : PySem.W.Frag} {f : Addr} {od an : Option Addr} {sl : Array (Option Value)} {oc kV dc pm cd ct : Value} (l : K.lookup f = some ⟨oc, od, .func (PySem.W.fnOf "__init__" "Refused.__init__" (defArgs s_Refused_init) (defBody s_Refused_init) (defScope s_Refused_init) .none kV dc pm an cd ct), sl⟩) (c : PySem.W.codeIn K cd "Refused.__init__" = true) (k : PySem.W.keepIn K (.ref f) = true) : ∃ fd, Fun K "__init__" "Refused.__init__" s_Refused_init f fd ∧ L2.Binds K fd P_Refused_init [] :=
  ⟨_, fun_mk (st := s_Refused_init) l c k, (fun_mk (st := s_Refused_init) l c k).binds (ps := P_Refused_init) fun _ _ _ _ _ _ us hl => match us, hl with | [_, _], _ => rfl⟩
theorem fe_want {K : PySem.W.Frag} {f : Addr} {od an : Option Addr} {sl : Array (Option Value)} {oc kV dc pm cd ct : Value} (l : K.lookup f = some ⟨oc, od, .func (PySem.W.fnOf "want" "want" (defArgs s_want) (defBody s_want) (defScope s_want) .none kV dc pm an cd ct), sl⟩) (c : PySem.W.codeIn K cd "want" = true) (k : PySem.W.keepIn K (.ref f) = true) : ∃ fd, Fun K "want" "want" s_want f fd ∧ L2.Binds K fd P_want [] :=
  ⟨_, fun_mk (st := s_want) l c k, (fun_mk (st := s_want) l c k).binds (ps := P_want) fun _ _ _ _ _ _ us hl => match us, hl with | [_, _], _ => rfl⟩
theorem fe_Desk_init {K : PySem.W.Frag} {f : Addr} {od an : Option Addr} {sl : Array (Option Value)} {oc kV dc pm cd ct : Value} (l : K.lookup f = some ⟨oc, od, .func (PySem.W.fnOf "__init__" "Desk.__init__" (defArgs s_Desk_init) (defBody s_Desk_init) (defScope s_Desk_init) .none kV dc pm an cd ct), sl⟩) (c : PySem.W.codeIn K cd "Desk.__init__" = true) (k : PySem.W.keepIn K (.ref f) = true) : ∃ fd, Fun K "__init__" "Desk.__init__" s_Desk_init f fd ∧ L2.Binds K fd P_Desk_init [] :=
  ⟨_, fun_mk (st := s_Desk_init) l c k, (fun_mk (st := s_Desk_init) l c k).binds (ps := P_Desk_init) fun _ _ _ _ _ _ us hl => match us, hl with | [_], _ => rfl⟩
theorem fe_Desk_load {K : PySem.W.Frag} {f : Addr} {od an : Option Addr} {sl : Array (Option Value)} {oc kV dc pm cd ct : Value} (l : K.lookup f = some ⟨oc, od, .func (PySem.W.fnOf "load" "Desk.load" (defArgs s_Desk_load) (defBody s_Desk_load) (defScope s_Desk_load) .none kV dc pm an cd ct), sl⟩) (c : PySem.W.codeIn K cd "Desk.load" = true) (k : PySem.W.keepIn K (.ref f) = true) : ∃ fd, Fun K "load" "Desk.load" s_Desk_load f fd ∧ L2.Binds K fd P_Desk_load [] :=
  ⟨_, fun_mk (st := s_Desk_load) l c k, (fun_mk (st := s_Desk_load) l c k).binds (ps := P_Desk_load) fun _ _ _ _ _ _ us hl => match us, hl with | [_, _], _ => rfl⟩
theorem fe_Desk_want_groupings {K : PySem.W.Frag} {f : Addr} {od an : Option Addr} {sl : Array (Option Value)} {oc kV dc pm cd ct : Value} (l : K.lookup f = some ⟨oc, od, .func (PySem.W.fnOf "want_groupings" "Desk.want_groupings" (defArgs s_Desk_want_groupings) (defBody s_Desk_want_groupings) (defScope s_Desk_want_groupings) .none kV dc pm an cd ct), sl⟩) (c : PySem.W.codeIn K cd "Desk.want_groupings" = true) (k : PySem.W.keepIn K (.ref f) = true) : ∃ fd, Fun K "want_groupings" "Desk.want_groupings" s_Desk_want_groupings f fd ∧ L2.Binds K fd P_Desk_want_groupings [] :=
  ⟨_, fun_mk (st := s_Desk_want_groupings) l c k, (fun_mk (st := s_Desk_want_groupings) l c k).binds (ps := P_Desk_want_groupings) fun _ _ _ _ _ _ us hl => match us, hl with | [_, _], _ => rfl⟩
theorem fe_Desk_counts {K : PySem.W.Frag} {f : Addr} {od an : Option Addr} {sl : Array (Option Value)} {oc kV dc pm cd ct : Value} (l : K.lookup f = some ⟨oc, od, .func (PySem.W.fnOf "counts" "Desk.counts" (defArgs s_Desk_counts) (defBody s_Desk_counts) (defScope s_Desk_counts) .none kV dc pm an cd ct), sl⟩) (c : PySem.W.codeIn K cd "Desk.counts" = true) (k : PySem.W.keepIn K (.ref f) = true) : ∃ fd, Fun K "counts" "Desk.counts" s_Desk_counts f fd ∧ L2.Binds K fd P_Desk_counts [] :=
  ⟨_, fun_mk (st := s_Desk_counts) l c k, (fun_mk (st := s_Desk_counts) l c k).binds (ps := P_Desk_counts) fun _ _ _ _ _ _ us hl => match us, hl with | [_], _ => rfl⟩
theorem fe_Desk_keep {K : PySem.W.Frag} {f : Addr} {od an : Option Addr} {sl : Array (Option Value)} {oc kV dc pm cd ct : Value} (l : K.lookup f = some ⟨oc, od, .func (PySem.W.fnOf "keep" "Desk.keep" (defArgs s_Desk_keep) (defBody s_Desk_keep) (defScope s_Desk_keep) .none kV dc pm an cd ct), sl⟩) (c : PySem.W.codeIn K cd "Desk.keep" = true) (k : PySem.W.keepIn K (.ref f) = true) : ∃ fd, Fun K "keep" "Desk.keep" s_Desk_keep f fd ∧ L2.Binds K fd P_Desk_keep [] :=
  ⟨_, fun_mk (st := s_Desk_keep) l c k, (fun_mk (st := s_Desk_keep) l c k).binds (ps := P_Desk_keep) fun _ _ _ _ _ _ us hl => match us, hl with | [_, _], _ => rfl⟩
theorem fe_Desk_put {K : PySem.W.Frag} {f : Addr} {od an : Option Addr} {sl : Array (Option Value)} {oc kV dc pm cd ct : Value} (l : K.lookup f = some ⟨oc, od, .func (PySem.W.fnOf "put" "Desk.put" (defArgs s_Desk_put) (defBody s_Desk_put) (defScope s_Desk_put) .none kV dc pm an cd ct), sl⟩) (c : PySem.W.codeIn K cd "Desk.put" = true) (k : PySem.W.keepIn K (.ref f) = true) : ∃ fd, Fun K "put" "Desk.put" s_Desk_put f fd ∧ L2.Binds K fd P_Desk_put [] :=
  ⟨_, fun_mk (st := s_Desk_put) l c k, (fun_mk (st := s_Desk_put) l c k).binds (ps := P_Desk_put) fun _ _ _ _ _ _ us hl => match us, hl with | [_, _, _], _ => rfl⟩
theorem fe_Desk_take {K : PySem.W.Frag} {f : Addr} {od an : Option Addr} {sl : Array (Option Value)} {oc kV dc pm cd ct : Value} (l : K.lookup f = some ⟨oc, od, .func (PySem.W.fnOf "take" "Desk.take" (defArgs s_Desk_take) (defBody s_Desk_take) (defScope s_Desk_take) .none kV dc pm an cd ct), sl⟩) (c : PySem.W.codeIn K cd "Desk.take" = true) (k : PySem.W.keepIn K (.ref f) = true) : ∃ fd, Fun K "take" "Desk.take" s_Desk_take f fd ∧ L2.Binds K fd P_Desk_take [] :=
  ⟨_, fun_mk (st := s_Desk_take) l c k, (fun_mk (st := s_Desk_take) l c k).binds (ps := P_Desk_take) fun _ _ _ _ _ _ us hl => match us, hl with | [_, _], _ => rfl⟩
theorem fe_Desk_refresh {K : PySem.W.Frag} {f : Addr} {od an : Option Addr} {sl : Array (Option Value)} {oc kV dc pm cd ct : Value} (l : K.lookup f = some ⟨oc, od, .func (PySem.W.fnOf "refresh" "Desk.refresh" (defArgs s_Desk_refresh) (defBody s_Desk_refresh) (defScope s_Desk_refresh) .none kV dc pm an cd ct), sl⟩) (c : PySem.W.codeIn K cd "Desk.refresh" = true) (k : PySem.W.keepIn K (.ref f) = true) : ∃ fd, Fun K "refresh" "Desk.refresh" s_Desk_refresh f fd ∧ L2.Binds K fd P_Desk_refresh [] :=
  ⟨_, fun_mk (st := s_Desk_refresh) l c k, (fun_mk (st := s_Desk_refresh) l c k).binds (ps := P_Desk_refresh) fun _ _ _ _ _ _ us hl => match us, hl with | [_, _], _ => rfl⟩
theorem fe_Desk_ages {K : PySem.W.Frag} {f : Addr} {od an : Option Addr} {sl : Array (Option Value)} {oc kV dc pm cd ct : Value} (l : K.lookup f = some ⟨oc, od, .func (PySem.W.fnOf "ages" "Desk.ages" (defArgs s_Desk_ages) (defBody s_Desk_ages) (defScope s_Desk_ages) .none kV dc pm an cd ct), sl⟩) (c : PySem.W.codeIn K cd "Desk.ages" = true) (k : PySem.W.keepIn K (.ref f) = true) : ∃ fd, Fun K "ages" "Desk.ages" s_Desk_ages f fd ∧ L2.Binds K fd P_Desk_ages [] :=
  ⟨_, fun_mk (st := s_Desk_ages) l c k, (fun_mk (st := s_Desk_ages) l c k).binds (ps := P_Desk_ages) fun _ _ _ _ _ _ us hl => match us, hl with | [_], _ => rfl⟩
theorem fe_Desk_read {K : PySem.W.Frag} {f : Addr} {od an : Option Addr} {sl : Array (Option Value)} {oc kV dc pm cd ct : Value} (l : K.lookup f = some ⟨oc, od, .func (PySem.W.fnOf "read" "Desk.read" (defArgs s_Desk_read) (defBody s_Desk_read) (defScope s_Desk_read) .none kV dc pm an cd ct), sl⟩) (c : PySem.W.codeIn K cd "Desk.read" = true) (k : PySem.W.keepIn K (.ref f) = true) : ∃ fd, Fun K "read" "Desk.read" s_Desk_read f fd ∧ L2.Binds K fd P_Desk_read [] :=
  ⟨_, fun_mk (st := s_Desk_read) l c k, (fun_mk (st := s_Desk_read) l c k).binds (ps := P_Desk_read) fun _ _ _ _ _ _ us hl => match us, hl with | [_, _, _], _ => rfl⟩
theorem fe_Desk_together {K : PySem.W.Frag} {f : Addr} {od an : Option Addr} {sl : Array (Option Value)} {oc kV dc pm cd ct : Value} (l : K.lookup f = some ⟨oc, od, .func (PySem.W.fnOf "together" "Desk.together" (defArgs s_Desk_together) (defBody s_Desk_together) (defScope s_Desk_together) .none kV dc pm an cd ct), sl⟩) (c : PySem.W.codeIn K cd "Desk.together" = true) (k : PySem.W.keepIn K (.ref f) = true) : ∃ fd, Fun K "together" "Desk.together" s_Desk_together f fd ∧ L2.Binds K fd P_Desk_together [] :=
  ⟨_, fun_mk (st := s_Desk_together) l c k, (fun_mk (st := s_Desk_together) l c k).binds (ps := P_Desk_together) fun _ _ _ _ _ _ us hl => match us, hl with | [_], _ => rfl⟩
theorem fe_Desk_was {K : PySem.W.Frag} {f : Addr} {od an : Option Addr} {sl : Array (Option Value)} {oc kV dc pm cd ct : Value} (l : K.lookup f = some ⟨oc, od, .func (PySem.W.fnOf "was" "Desk.was" (defArgs s_Desk_was) (defBody s_Desk_was) (defScope s_Desk_was) .none kV dc pm an cd ct), sl⟩) (c : PySem.W.codeIn K cd "Desk.was" = true) (k : PySem.W.keepIn K (.ref f) = true) : ∃ fd, Fun K "was" "Desk.was" s_Desk_was f fd ∧ L2.Binds K fd P_Desk_was [] :=
  ⟨_, fun_mk (st := s_Desk_was) l c k, (fun_mk (st := s_Desk_was) l c k).binds (ps := P_Desk_was) fun _ _ _ _ _ _ us hl => match us, hl with | [_, _, _], _ => rfl⟩
theorem fe_Desk_asked {K : PySem.W.Frag} {f : Addr} {od an : Option Addr} {sl : Array (Option Value)} {oc kV dc pm cd ct : Value} (l : K.lookup f = some ⟨oc, od, .func (PySem.W.fnOf "asked" "Desk.asked" (defArgs s_Desk_asked) (defBody s_Desk_asked) (defScope s_Desk_asked) .none kV dc pm an cd ct), sl⟩) (c : PySem.W.codeIn K cd "Desk.asked" = true) (k : PySem.W.keepIn K (.ref f) = true) : ∃ fd, Fun K "asked" "Desk.asked" s_Desk_asked f fd ∧ L2.Binds K fd P_Desk_asked [] :=
  ⟨_, fun_mk (st := s_Desk_asked) l c k, (fun_mk (st := s_Desk_asked) l c k).binds (ps := P_Desk_asked) fun _ _ _ _ _ _ us hl => match us, hl with | [_, _, _, _], _ => rfl⟩
theorem fe_Desk_answer {K : PySem.W.Frag} {f : Addr} {od an : Option Addr} {sl : Array (Option Value)} {oc kV dc pm cd ct : Value} (l : K.lookup f = some ⟨oc, od, .func (PySem.W.fnOf "answer" "Desk.answer" (defArgs s_Desk_answer) (defBody s_Desk_answer) (defScope s_Desk_answer) .none kV dc pm an cd ct), sl⟩) (c : PySem.W.codeIn K cd "Desk.answer" = true) (k : PySem.W.keepIn K (.ref f) = true) : ∃ fd, Fun K "answer" "Desk.answer" s_Desk_answer f fd ∧ L2.Binds K fd P_Desk_answer [] :=
  ⟨_, fun_mk (st := s_Desk_answer) l c k, (fun_mk (st := s_Desk_answer) l c k).binds (ps := P_Desk_answer) fun _ _ _ _ _ _ us hl => match us, hl with | [_, _, _, _], _ => rfl⟩
theorem fe_rows_at {K : PySem.W.Frag} {f : Addr} {od an : Option Addr} {sl : Array (Option Value)} {oc kV dc pm cd ct : Value} (l : K.lookup f = some ⟨oc, od, .func (PySem.W.fnOf "rows_at" "rows_at" (defArgs s_rows_at) (defBody s_rows_at) (defScope s_rows_at) .none kV dc pm an cd ct), sl⟩) (c : PySem.W.codeIn K cd "rows_at" = true) (k : PySem.W.keepIn K (.ref f) = true) : ∃ fd, Fun K "rows_at" "rows_at" s_rows_at f fd ∧ L2.Binds K fd P_rows_at [] :=
  ⟨_, fun_mk (st := s_rows_at) l c k, (fun_mk (st := s_rows_at) l c k).binds (ps := P_rows_at) fun _ _ _ _ _ _ us hl => match us, hl with | [_, _, _], _ => rfl⟩
theorem fe_answers {K : PySem.W.Frag} {f : Addr} {od an : Option Addr} {sl : Array (Option Value)} {oc kV dc pm cd ct : Value} (l : K.lookup f = some ⟨oc, od, .func (PySem.W.fnOf "answers" "answers" (defArgs s_answers) (defBody s_answers) (defScope s_answers) .none kV dc pm an cd ct), sl⟩) (c : PySem.W.codeIn K cd "answers" = true) (k : PySem.W.keepIn K (.ref f) = true) : ∃ fd, Fun K "answers" "answers" s_answers f fd ∧ L2.Binds K fd P_answers [] :=
  ⟨_, fun_mk (st := s_answers) l c k, (fun_mk (st := s_answers) l c k).binds (ps := P_answers) fun _ _ _ _ _ _ us hl => match us, hl with | [_], _ => rfl⟩
theorem all_mk {P : Program} {w : World} {K : PySem.W.Frag} {h : Heap} {mg : Str → Option Value} {fa : Addr} (X : K.In h) (G : h.Ns mainGlobals mg) (hfa : mg "answers" = some (.ref fa))
    {f_columns_of f_has_all f_group_of f_with_more f_answer_of f_worked_out f_lines_told f_Kept_init f_Store_init f_Store_rows_now f_Store_is_grouping f_Store_put f_Store_take f_Store_keep f_Store_age f_Store_since f_Store_touched f_Store_refresh f_Store_lines f_Store_read_from f_Store_answer_from f_Store_cheapest f_Fault_init f_sign_of f_run_end f_remark_end f_worth_of f_number_at f_token_at f_tokens_of f_Table_init f_Reader_init f_Reader_comes f_Reader_want f_Reader_take f_Reader_read f_Reader_next_name f_Reader_read_number f_Reader_begin f_Reader_column f_Reader_all_columns f_Reader_summed f_Reader_row f_Reader_asked_column f_Reader_asked_columns f_Reader_question f_Reader_whole f_read_table f_Refused_init f_want f_Desk_init f_Desk_load f_Desk_want_groupings f_Desk_counts f_Desk_keep f_Desk_put f_Desk_take f_Desk_refresh f_Desk_ages f_Desk_read f_Desk_together f_Desk_was f_Desk_asked f_Desk_answer f_rows_at f_answers c_Kept c_Store c_Fault c_Table c_Reader c_Refused c_Desk a_WORDS a_BLANKS a_FORMS a_F0 a_F1 a_F2 a_F3 a_F4 a_F5 a_F6 a_F7 a_F8 : Addr}
    {nmFault qFault : Str} {NFault : Addr} {bsFault : List Value} {snFault : List Str} {subFault : List Value} {abFault : Bool} {colFault : Option Bool} {ddFault : Option Addr} {m0Fault m1Fault m2Fault m3Fault m5Fault : Option Value}
    {nmRefused qRefused : Str} {NRefused : Addr} {bsRefused : List Value} {snRefused : List Str} {subRefused : List Value} {abRefused : Bool} {colRefused : Option Bool} {ddRefused : Option Addr} {m0Refused m1Refused m2Refused m3Refused m5Refused : Option Value}
    {od an : Option Addr} {sl : Array (Option Value)} {oc kV dc pm cd ct : Value}
    (hc_PUT : ∃ t, mg "PUT" = some (.int (1) t))
    (hc_TAKEN_keeping : ∃ t, mg "TAKEN_keeping" = some (.int (-1) t))
    (hc_BY_CHANGES : ∃ t, mg "BY_CHANGES" = some (.int (-1) t))
    (hc_BY_TABLE : ∃ t, mg "BY_TABLE" = some (.int (-1) t))
    (hc_NAME : ∃ t, mg "NAME" = some (.str "name" t))
    (hc_WORD : ∃ t, mg "WORD" = some (.str "word" t))
    (hc_NUMBER : ∃ t, mg "NUMBER" = some (.str "number" t))
    (hc_SIGN : ∃ t, mg "SIGN" = some (.str "sign" t))
    (hc_END : ∃ t, mg "END" = some (.str "end" t))
    (hg_WORDS : PySem.W.nsIn K mainGlobals "WORDS" = some (some (.ref a_WORDS)))
    (hw_WORDS : ∀ H, SqT K H a_WORDS [V.str "columns", V.str "row", V.str "ask", V.str "times"])
    (hc_LETTERS : ∃ t, mg "LETTERS" = some (.str "abcdefghijklmnopqrstuvwxyzABCDEFGHIJKLMNOPQRSTUVWXYZ" t))
    (hc_DIGITS : ∃ t, mg "DIGITS" = some (.str "0123456789" t))
    (hc_SIGNS : ∃ t, mg "SIGNS" = some (.str ",:;-" t))
    (hg_BLANKS : PySem.W.nsIn K mainGlobals "BLANKS" = some (some (.ref a_BLANKS)))
    (hw_BLANKS : ∀ H, SqT K H a_BLANKS [V.int (32), V.int (9), V.int (10)])
    (hc_REMARK : ∃ t, mg "REMARK" = some (.int (35) t))
    (hc_LINE_END : ∃ t, mg "LINE_END" = some (.int (10) t))
    (hc_LONGEST_NAME : ∃ t, mg "LONGEST_NAME" = some (.int (16) t))
    (hc_MOST_NUMBER : ∃ t, mg "MOST_NUMBER" = some (.int (1000000000) t))
    (hc_UNKNOWN : ∃ t, mg "UNKNOWN" = some (.str "?" t))
    (hc_NO_TOKEN : ∃ t, mg "NO_TOKEN" = some (.int (2) t))
    (hc_LONG_TEXT : ∃ t, mg "LONG_TEXT" = some (.int (1) t))
    (hc_MISPLACED : ∃ t, mg "MISPLACED" = some (.int (3) t))
    (hc_TOO_MANY_reading : ∃ t, mg "TOO_MANY_reading" = some (.int (4) t))
    (hc_TAKEN_reading : ∃ t, mg "TAKEN_reading" = some (.int (5) t))
    (hc_TWICE : ∃ t, mg "TWICE" = some (.int (6) t))
    (hc_OUT_OF_BOUNDS : ∃ t, mg "OUT_OF_BOUNDS" = some (.int (7) t))
    (hc_NO_COLUMN : ∃ t, mg "NO_COLUMN" = some (.int (8) t))
    (hc_MOST_BYTES : ∃ t, mg "MOST_BYTES" = some (.int (4096) t))
    (hc_MOST_COLUMNS : ∃ t, mg "MOST_COLUMNS" = some (.int (4) t))
    (hc_MOST_ROWS : ∃ t, mg "MOST_ROWS" = some (.int (16) t))
    (hc_MOST_QUESTIONS : ∃ t, mg "MOST_QUESTIONS" = some (.int (8) t))
    (hc_MOST_VALUE : ∃ t, mg "MOST_VALUE" = some (.int (9) t))
    (hc_MOST_SUMMED : ∃ t, mg "MOST_SUMMED" = some (.int (1000) t))
    (hc_MOST_TIMES : ∃ t, mg "MOST_TIMES" = some (.int (99) t))
    (hc_NO_TABLE : ∃ t, mg "NO_TABLE" = some (.int (-1) t))
    (hc_NO_GROUPING : ∃ t, mg "NO_GROUPING" = some (.int (-2) t))
    (hc_NO_ROW : ∃ t, mg "NO_ROW" = some (.int (-3) t))
    (hc_NO_VALUES : ∃ t, mg "NO_VALUES" = some (.int (-4) t))
    (hc_NOT_KEPT : ∃ t, mg "NOT_KEPT" = some (.int (-5) t))
    (hc_FULL : ∃ t, mg "FULL" = some (.int (-6) t))
    (hc_TOO_MANY_tables : ∃ t, mg "TOO_MANY_tables" = some (.int (-7) t))
    (hc_BELOW : ∃ t, mg "BELOW" = some (.int (-8) t))
    (hc_NOT_SO_MANY : ∃ t, mg "NOT_SO_MANY" = some (.int (-9) t))
    (hc_MOST_CHANGES : ∃ t, mg "MOST_CHANGES" = some (.int (40) t))
    (hg_FORMS : PySem.W.nsIn K mainGlobals "FORMS" = some (some (.ref a_FORMS)))
    (hw_FORMS : ∀ H, SqT K H a_FORMS [V.ref a_F0, V.ref a_F1, V.ref a_F2, V.ref a_F3, V.ref a_F4, V.ref a_F5, V.ref a_F6, V.ref a_F7, V.ref a_F8])
    (hw_F0 : ∀ H, SqT K H a_F0 [V.int (0), V.int (1)])
    (hw_F1 : ∀ H, SqT K H a_F1 [V.int (0), V.int (1)])
    (hw_F2 : ∀ H, SqT K H a_F2 [V.int (1), V.int (1)])
    (hw_F3 : ∀ H, SqT K H a_F3 [V.int (1), V.int (0)])
    (hw_F4 : ∀ H, SqT K H a_F4 [V.int (1), V.int (0)])
    (hw_F5 : ∀ H, SqT K H a_F5 [V.int (0), V.int (0)])
    (hw_F6 : ∀ H, SqT K H a_F6 [V.int (2), V.int (0)])
    (hw_F7 : ∀ H, SqT K H a_F7 [V.int (0), V.int (0)])
    (hw_F8 : ∀ H, SqT K H a_F8 [V.int (2), V.int (0)])
    (hn_ValueError : PySem.W.nsIn K mainGlobals "ValueError" = some none)
    (hn_all : PySem.W.nsIn K mainGlobals "all" = some none)
    (hn_dict : PySem.W.nsIn K mainGlobals "dict" = some none)
    (hn_enumerate : PySem.W.nsIn K mainGlobals "enumerate" = some none)
    (hn_len : PySem.W.nsIn K mainGlobals "len" = some none)
    (hn_list : PySem.W.nsIn K mainGlobals "list" = some none)
    (hn_min : PySem.W.nsIn K mainGlobals "min" = some none)
    (hn_ord : PySem.W.nsIn K mainGlobals "ord" = some none)
    (hn_range : PySem.W.nsIn K mainGlobals "range" = some none)
    (hn_set : PySem.W.nsIn K mainGlobals "set" = some none)
    (hn_sorted : PySem.W.nsIn K mainGlobals "sorted" = some none)
    (hn_sum : PySem.W.nsIn K mainGlobals "sum" = some none)
    (hn_tuple : PySem.W.nsIn K mainGlobals "tuple" = some none)
    (h_vinit : PySem.W.findCls K (.type "ValueError") (.type "type") "__init__" = some (.val (.builtin "ValueError.__init__")))
    (hg_Kept : PySem.W.nsIn K mainGlobals "Kept" = some (some (.ref c_Kept)))
    (hg_Store : PySem.W.nsIn K mainGlobals "Store" = some (some (.ref c_Store)))
    (hg_Fault : PySem.W.nsIn K mainGlobals "Fault" = some (some (.ref c_Fault)))
    (hg_Table : PySem.W.nsIn K mainGlobals "Table" = some (some (.ref c_Table)))
    (hg_Reader : PySem.W.nsIn K mainGlobals "Reader" = some (some (.ref c_Reader)))
    (hg_Refused : PySem.W.nsIn K mainGlobals "Refused" = some (some (.ref c_Refused)))
    (hg_Desk : PySem.W.nsIn K mainGlobals "Desk" = some (some (.ref c_Desk)))
    (ha_columns_of : PySem.W.nsIn K mainGlobals "columns_of" = some (some (.ref f_columns_of)))
    (hf_columns_of : ∃ fd, Fun K "columns_of" "columns_of" s_columns_of f_columns_of fd ∧ L2.Binds K fd P_columns_of [])
    (hk_columns_of : PySem.W.keepIn K (.ref f_columns_of) = true)
    (ha_has_all : PySem.W.nsIn K mainGlobals "has_all" = some (some (.ref f_has_all)))
    (hf_has_all : ∃ fd, Fun K "has_all" "has_all" s_has_all f_has_all fd ∧ L2.Binds K fd P_has_all [])
    (hk_has_all : PySem.W.keepIn K (.ref f_has_all) = true)
    (ha_group_of : PySem.W.nsIn K mainGlobals "group_of" = some (some (.ref f_group_of)))
    (hf_group_of : ∃ fd, Fun K "group_of" "group_of" s_group_of f_group_of fd ∧ L2.Binds K fd P_group_of [])
    (hk_group_of : PySem.W.keepIn K (.ref f_group_of) = true)
    (ha_with_more : PySem.W.nsIn K mainGlobals "with_more" = some (some (.ref f_with_more)))
    (hf_with_more : ∃ fd, Fun K "with_more" "with_more" s_with_more f_with_more fd ∧ L2.Binds K fd P_with_more [])
    (hk_with_more : PySem.W.keepIn K (.ref f_with_more) = true)
    (ha_answer_of : PySem.W.nsIn K mainGlobals "answer_of" = some (some (.ref f_answer_of)))
    (hf_answer_of : ∃ fd, Fun K "answer_of" "answer_of" s_answer_of f_answer_of fd ∧ L2.Binds K fd P_answer_of [])
    (hk_answer_of : PySem.W.keepIn K (.ref f_answer_of) = true)
    (ha_worked_out : PySem.W.nsIn K mainGlobals "worked_out" = some (some (.ref f_worked_out)))
    (hf_worked_out : ∃ fd, Fun K "worked_out" "worked_out" s_worked_out f_worked_out fd ∧ L2.Binds K fd P_worked_out [])
    (hk_worked_out : PySem.W.keepIn K (.ref f_worked_out) = true)
    (ha_lines_told : PySem.W.nsIn K mainGlobals "lines_told" = some (some (.ref f_lines_told)))
    (hf_lines_told : ∃ fd, Fun K "lines_told" "lines_told" s_lines_told f_lines_told fd ∧ L2.Binds K fd P_lines_told [])
    (hk_lines_told : PySem.W.keepIn K (.ref f_lines_told) = true)
    (ha_Kept_init : PySem.W.findIn K (.ref c_Kept) "__init__" = some (some (.ref f_Kept_init)))
    (hf_Kept_init : ∃ fd, Fun K "__init__" "Kept.__init__" s_Kept_init f_Kept_init fd ∧ L2.Binds K fd P_Kept_init [])
    (ha_Store_init : PySem.W.findIn K (.ref c_Store) "__init__" = some (some (.ref f_Store_init)))
    (hf_Store_init : ∃ fd, Fun K "__init__" "Store.__init__" s_Store_init f_Store_init fd ∧ L2.Binds K fd P_Store_init [])
    (ha_Store_rows_now : PySem.W.findIn K (.ref c_Store) "rows_now" = some (some (.ref f_Store_rows_now)))
    (hf_Store_rows_now : ∃ fd, Fun K "rows_now" "Store.rows_now" s_Store_rows_now f_Store_rows_now fd ∧ L2.Binds K fd P_Store_rows_now [])
    (hm_Store_rows_now : Meth K c_Store "rows_now" f_Store_rows_now)
    (ha_Store_is_grouping : PySem.W.findIn K (.ref c_Store) "is_grouping" = some (some (.ref f_Store_is_grouping)))
    (hf_Store_is_grouping : ∃ fd, Fun K "is_grouping" "Store.is_grouping" s_Store_is_grouping f_Store_is_grouping fd ∧ L2.Binds K fd P_Store_is_grouping [])
    (hm_Store_is_grouping : Meth K c_Store "is_grouping" f_Store_is_grouping)
    (ha_Store_put : PySem.W.findIn K (.ref c_Store) "put" = some (some (.ref f_Store_put)))
    (hf_Store_put : ∃ fd, Fun K "put" "Store.put" s_Store_put f_Store_put fd ∧ L2.Binds K fd P_Store_put [])
    (hm_Store_put : Meth K c_Store "put" f_Store_put)
    (ha_Store_take : PySem.W.findIn K (.ref c_Store) "take" = some (some (.ref f_Store_take)))
    (hf_Store_take : ∃ fd, Fun K "take" "Store.take" s_Store_take f_Store_take fd ∧ L2.Binds K fd P_Store_take [])
    (hm_Store_take : Meth K c_Store "take" f_Store_take)
    (ha_Store_keep : PySem.W.findIn K (.ref c_Store) "keep" = some (some (.ref f_Store_keep)))
    (hf_Store_keep : ∃ fd, Fun K "keep" "Store.keep" s_Store_keep f_Store_keep fd ∧ L2.Binds K fd P_Store_keep [])
    (hm_Store_keep : Meth K c_Store "keep" f_Store_keep)
    (ha_Store_age : PySem.W.findIn K (.ref c_Store) "age" = some (some (.ref f_Store_age)))
    (hf_Store_age : ∃ fd, Fun K "age" "Store.age" s_Store_age f_Store_age fd ∧ L2.Binds K fd P_Store_age [])
    (hm_Store_age : Meth K c_Store "age" f_Store_age)
    (ha_Store_since : PySem.W.findIn K (.ref c_Store) "since" = some (some (.ref f_Store_since)))
    (hf_Store_since : ∃ fd, Fun K "since" "Store.since" s_Store_since f_Store_since fd ∧ L2.Binds K fd P_Store_since [])
    (hm_Store_since : Meth K c_Store "since" f_Store_since)
    (ha_Store_touched : PySem.W.findIn K (.ref c_Store) "touched" = some (some (.ref f_Store_touched)))
    (hf_Store_touched : ∃ fd, Fun K "touched" "Store.touched" s_Store_touched f_Store_touched fd ∧ L2.Binds K fd P_Store_touched [])
    (hm_Store_touched : Meth K c_Store "touched" f_Store_touched)
    (ha_Store_refresh : PySem.W.findIn K (.ref c_Store) "refresh" = some (some (.ref f_Store_refresh)))
    (hf_Store_refresh : ∃ fd, Fun K "refresh" "Store.refresh" s_Store_refresh f_Store_refresh fd ∧ L2.Binds K fd P_Store_refresh [])
    (hm_Store_refresh : Meth K c_Store "refresh" f_Store_refresh)
    (ha_Store_lines : PySem.W.findIn K (.ref c_Store) "lines" = some (some (.ref f_Store_lines)))
    (hf_Store_lines : ∃ fd, Fun K "lines" "Store.lines" s_Store_lines f_Store_lines fd ∧ L2.Binds K fd P_Store_lines [])
    (hm_Store_lines : Meth K c_Store "lines" f_Store_lines)
    (ha_Store_read_from : PySem.W.findIn K (.ref c_Store) "read_from" = some (some (.ref f_Store_read_from)))
    (hf_Store_read_from : ∃ fd, Fun K "read_from" "Store.read_from" s_Store_read_from f_Store_read_from fd ∧ L2.Binds K fd P_Store_read_from [])
    (hm_Store_read_from : Meth K c_Store "read_from" f_Store_read_from)
    (ha_Store_answer_from : PySem.W.findIn K (.ref c_Store) "answer_from" = some (some (.ref f_Store_answer_from)))
    (hf_Store_answer_from : ∃ fd, Fun K "answer_from" "Store.answer_from" s_Store_answer_from f_Store_answer_from fd ∧ L2.Binds K fd P_Store_answer_from [])
    (hm_Store_answer_from : Meth K c_Store "answer_from" f_Store_answer_from)
    (ha_Store_cheapest : PySem.W.findIn K (.ref c_Store) "cheapest" = some (some (.ref f_Store_cheapest)))
    (hf_Store_cheapest : ∃ fd, Fun K "cheapest" "Store.cheapest" s_Store_cheapest f_Store_cheapest fd ∧ L2.Binds K fd P_Store_cheapest [])
    (hm_Store_cheapest : Meth K c_Store "cheapest" f_Store_cheapest)
    (ha_Fault_init : PySem.W.findIn K (.ref c_Fault) "__init__" = some (some (.ref f_Fault_init)))
    (hf_Fault_init : ∃ fd, Fun K "__init__" "Fault.__init__" s_Fault_init f_Fault_init fd ∧ L2.Binds K fd P_Fault_init [])
    (ha_sign_of : PySem.W.nsIn K mainGlobals "sign_of" = some (some (.ref f_sign_of)))
    (hf_sign_of : ∃ fd, Fun K "sign_of" "sign_of" s_sign_of f_sign_of fd ∧ L2.Binds K fd P_sign_of [])
    (hk_sign_of : PySem.W.keepIn K (.ref f_sign_of) = true)
    (ha_run_end : PySem.W.nsIn K mainGlobals "run_end" = some (some (.ref f_run_end)))
    (hf_run_end : ∃ fd, Fun K "run_end" "run_end" s_run_end f_run_end fd ∧ L2.Binds K fd P_run_end [])
    (hk_run_end : PySem.W.keepIn K (.ref f_run_end) = true)
    (ha_remark_end : PySem.W.nsIn K mainGlobals "remark_end" = some (some (.ref f_remark_end)))
    (hf_remark_end : ∃ fd, Fun K "remark_end" "remark_end" s_remark_end f_remark_end fd ∧ L2.Binds K fd P_remark_end [])
    (hk_remark_end : PySem.W.keepIn K (.ref f_remark_end) = true)
    (ha_worth_of : PySem.W.nsIn K mainGlobals "worth_of" = some (some (.ref f_worth_of)))
    (hf_worth_of : ∃ fd, Fun K "worth_of" "worth_of" s_worth_of f_worth_of fd ∧ L2.Binds K fd P_worth_of [])
    (hk_worth_of : PySem.W.keepIn K (.ref f_worth_of) = true)
    (ha_number_at : PySem.W.nsIn K mainGlobals "number_at" = some (some (.ref f_number_at)))
    (hf_number_at : ∃ fd, Fun K "number_at" "number_at" s_number_at f_number_at fd ∧ L2.Binds K fd P_number_at [])
    (hk_number_at : PySem.W.keepIn K (.ref f_number_at) = true)
    (ha_token_at : PySem.W.nsIn K mainGlobals "token_at" = some (some (.ref f_token_at)))
    (hf_token_at : ∃ fd, Fun K "token_at" "token_at" s_token_at f_token_at fd ∧ L2.Binds K fd P_token_at [])
    (hk_token_at : PySem.W.keepIn K (.ref f_token_at) = true)
    (ha_tokens_of : PySem.W.nsIn K mainGlobals "tokens_of" = some (some (.ref f_tokens_of)))
    (hf_tokens_of : ∃ fd, Fun K "tokens_of" "tokens_of" s_tokens_of f_tokens_of fd ∧ L2.Binds K fd P_tokens_of [])
    (hk_tokens_of : PySem.W.keepIn K (.ref f_tokens_of) = true)
    (ha_Table_init : PySem.W.findIn K (.ref c_Table) "__init__" = some (some (.ref f_Table_init)))
    (hf_Table_init : ∃ fd, Fun K "__init__" "Table.__init__" s_Table_init f_Table_init fd ∧ L2.Binds K fd P_Table_init [])
    (ha_Reader_init : PySem.W.findIn K (.ref c_Reader) "__init__" = some (some (.ref f_Reader_init)))
    (hf_Reader_init : ∃ fd, Fun K "__init__" "Reader.__init__" s_Reader_init f_Reader_init fd ∧ L2.Binds K fd P_Reader_init [])
    (ha_Reader_comes : PySem.W.findIn K (.ref c_Reader) "comes" = some (some (.ref f_Reader_comes)))
    (hf_Reader_comes : ∃ fd, Fun K "comes" "Reader.comes" s_Reader_comes f_Reader_comes fd ∧ L2.Binds K fd P_Reader_comes [])
    (hm_Reader_comes : Meth K c_Reader "comes" f_Reader_comes)
    (ha_Reader_want : PySem.W.findIn K (.ref c_Reader) "want" = some (some (.ref f_Reader_want)))
    (hf_Reader_want : ∃ fd, Fun K "want" "Reader.want" s_Reader_want f_Reader_want fd ∧ L2.Binds K fd P_Reader_want [])
    (hm_Reader_want : Meth K c_Reader "want" f_Reader_want)
    (ha_Reader_take : PySem.W.findIn K (.ref c_Reader) "take" = some (some (.ref f_Reader_take)))
    (hf_Reader_take : ∃ fd, Fun K "take" "Reader.take" s_Reader_take f_Reader_take fd ∧ L2.Binds K fd P_Reader_take [])
    (hm_Reader_take : Meth K c_Reader "take" f_Reader_take)
    (ha_Reader_read : PySem.W.findIn K (.ref c_Reader) "read" = some (some (.ref f_Reader_read)))
    (hf_Reader_read : ∃ fd, Fun K "read" "Reader.read" s_Reader_read f_Reader_read fd ∧ L2.Binds K fd P_Reader_read [])
    (hm_Reader_read : Meth K c_Reader "read" f_Reader_read)
    (ha_Reader_next_name : PySem.W.findIn K (.ref c_Reader) "next_name" = some (some (.ref f_Reader_next_name)))
    (hf_Reader_next_name : ∃ fd, Fun K "next_name" "Reader.next_name" s_Reader_next_name f_Reader_next_name fd ∧ L2.Binds K fd P_Reader_next_name [])
    (hm_Reader_next_name : Meth K c_Reader "next_name" f_Reader_next_name)
    (ha_Reader_read_number : PySem.W.findIn K (.ref c_Reader) "read_number" = some (some (.ref f_Reader_read_number)))
    (hf_Reader_read_number : ∃ fd, Fun K "read_number" "Reader.read_number" s_Reader_read_number f_Reader_read_number fd ∧ L2.Binds K fd P_Reader_read_number [])
    (hm_Reader_read_number : Meth K c_Reader "read_number" f_Reader_read_number)
    (ha_Reader_begin : PySem.W.findIn K (.ref c_Reader) "begin" = some (some (.ref f_Reader_begin)))
    (hf_Reader_begin : ∃ fd, Fun K "begin" "Reader.begin" s_Reader_begin f_Reader_begin fd ∧ L2.Binds K fd P_Reader_begin [])
    (hm_Reader_begin : Meth K c_Reader "begin" f_Reader_begin)
    (ha_Reader_column : PySem.W.findIn K (.ref c_Reader) "column" = some (some (.ref f_Reader_column)))
    (hf_Reader_column : ∃ fd, Fun K "column" "Reader.column" s_Reader_column f_Reader_column fd ∧ L2.Binds K fd P_Reader_column [])
    (hm_Reader_column : Meth K c_Reader "column" f_Reader_column)
    (ha_Reader_all_columns : PySem.W.findIn K (.ref c_Reader) "all_columns" = some (some (.ref f_Reader_all_columns)))
    (hf_Reader_all_columns : ∃ fd, Fun K "all_columns" "Reader.all_columns" s_Reader_all_columns f_Reader_all_columns fd ∧ L2.Binds K fd P_Reader_all_columns [])
    (hm_Reader_all_columns : Meth K c_Reader "all_columns" f_Reader_all_columns)
    (ha_Reader_summed : PySem.W.findIn K (.ref c_Reader) "summed" = some (some (.ref f_Reader_summed)))
    (hf_Reader_summed : ∃ fd, Fun K "summed" "Reader.summed" s_Reader_summed f_Reader_summed fd ∧ L2.Binds K fd P_Reader_summed [])
    (hm_Reader_summed : Meth K c_Reader "summed" f_Reader_summed)
    (ha_Reader_row : PySem.W.findIn K (.ref c_Reader) "row" = some (some (.ref f_Reader_row)))
    (hf_Reader_row : ∃ fd, Fun K "row" "Reader.row" s_Reader_row f_Reader_row fd ∧ L2.Binds K fd P_Reader_row [])
    (hm_Reader_row : Meth K c_Reader "row" f_Reader_row)
    (ha_Reader_asked_column : PySem.W.findIn K (.ref c_Reader) "asked_column" = some (some (.ref f_Reader_asked_column)))
    (hf_Reader_asked_column : ∃ fd, Fun K "asked_column" "Reader.asked_column" s_Reader_asked_column f_Reader_asked_column fd ∧ L2.Binds K fd P_Reader_asked_column [])
    (hm_Reader_asked_column : Meth K c_Reader "asked_column" f_Reader_asked_column)
    (ha_Reader_asked_columns : PySem.W.findIn K (.ref c_Reader) "asked_columns" = some (some (.ref f_Reader_asked_columns)))
    (hf_Reader_asked_columns : ∃ fd, Fun K "asked_columns" "Reader.asked_columns" s_Reader_asked_columns f_Reader_asked_columns fd ∧ L2.Binds K fd P_Reader_asked_columns [])
    (hm_Reader_asked_columns : Meth K c_Reader "asked_columns" f_Reader_asked_columns)
    (ha_Reader_question : PySem.W.findIn K (.ref c_Reader) "question" = some (some (.ref f_Reader_question)))
    (hf_Reader_question : ∃ fd, Fun K "question" "Reader.question" s_Reader_question f_Reader_question fd ∧ L2.Binds K fd P_Reader_question [])
    (hm_Reader_question : Meth K c_Reader "question" f_Reader_question)
    (ha_Reader_whole : PySem.W.findIn K (.ref c_Reader) "whole" = some (some (.ref f_Reader_whole)))
    (hf_Reader_whole : ∃ fd, Fun K "whole" "Reader.whole" s_Reader_whole f_Reader_whole fd ∧ L2.Binds K fd P_Reader_whole [])
    (hm_Reader_whole : Meth K c_Reader "whole" f_Reader_whole)
    (ha_read_table : PySem.W.nsIn K mainGlobals "read_table" = some (some (.ref f_read_table)))
    (hf_read_table : ∃ fd, Fun K "read_table" "read_table" s_read_table f_read_table fd ∧ L2.Binds K fd P_read_table [])
    (hk_read_table : PySem.W.keepIn K (.ref f_read_table) = true)
    (ha_Refused_init : PySem.W.findIn K (.ref c_Refused) "__init__" = some (some (.ref f_Refused_init)))
    (hf_Refused_init : ∃ fd, Fun K "__init__" "Refused.__init__" s_Refused_init f_Refused_init fd ∧ L2.Binds K fd P_Refused_init [])
    (ha_want : PySem.W.nsIn K mainGlobals "want" = some (some (.ref f_want)))
    (hf_want : ∃ fd, Fun K "want" "want" s_want f_want fd ∧ L2.Binds K fd P_want [])
    (hk_want : PySem.W.keepIn K (.ref f_want) = true)
    (ha_Desk_init : PySem.W.findIn K (.ref c_Desk) "__init__" = some (some (.ref f_Desk_init)))
    (hf_Desk_init : ∃ fd, Fun K "__init__" "Desk.__init__" s_Desk_init f_Desk_init fd ∧ L2.Binds K fd P_Desk_init [])
    (ha_Desk_load : PySem.W.findIn K (.ref c_Desk) "load" = some (some (.ref f_Desk_load)))
    (hf_Desk_load : ∃ fd, Fun K "load" "Desk.load" s_Desk_load f_Desk_load fd ∧ L2.Binds K fd P_Desk_load [])
    (hm_Desk_load : Meth K c_Desk "load" f_Desk_load)
    (ha_Desk_want_groupings : PySem.W.findIn K (.ref c_Desk) "want_groupings" = some (some (.ref f_Desk_want_groupings)))
    (hf_Desk_want_groupings : ∃ fd, Fun K "want_groupings" "Desk.want_groupings" s_Desk_want_groupings f_Desk_want_groupings fd ∧ L2.Binds K fd P_Desk_want_groupings [])
    (hm_Desk_want_groupings : Meth K c_Desk "want_groupings" f_Desk_want_groupings)
    (ha_Desk_counts : PySem.W.findIn K (.ref c_Desk) "counts" = some (some (.ref f_Desk_counts)))
    (hf_Desk_counts : ∃ fd, Fun K "counts" "Desk.counts" s_Desk_counts f_Desk_counts fd ∧ L2.Binds K fd P_Desk_counts [])
    (hm_Desk_counts : Meth K c_Desk "counts" f_Desk_counts)
    (ha_Desk_keep : PySem.W.findIn K (.ref c_Desk) "keep" = some (some (.ref f_Desk_keep)))
    (hf_Desk_keep : ∃ fd, Fun K "keep" "Desk.keep" s_Desk_keep f_Desk_keep fd ∧ L2.Binds K fd P_Desk_keep [])
    (hm_Desk_keep : Meth K c_Desk "keep" f_Desk_keep)
    (ha_Desk_put : PySem.W.findIn K (.ref c_Desk) "put" = some (some (.ref f_Desk_put)))
    (hf_Desk_put : ∃ fd, Fun K "put" "Desk.put" s_Desk_put f_Desk_put fd ∧ L2.Binds K fd P_Desk_put [])
    (hm_Desk_put : Meth K c_Desk "put" f_Desk_put)
    (ha_Desk_take : PySem.W.findIn K (.ref c_Desk) "take" = some (some (.ref f_Desk_take)))
    (hf_Desk_take : ∃ fd, Fun K "take" "Desk.take" s_Desk_take f_Desk_take fd ∧ L2.Binds K fd P_Desk_take [])
    (hm_Desk_take : Meth K c_Desk "take" f_Desk_take)
    (ha_Desk_refresh : PySem.W.findIn K (.ref c_Desk) "refresh" = some (some (.ref f_Desk_refresh)))
    (hf_Desk_refresh : ∃ fd, Fun K "refresh" "Desk.refresh" s_Desk_refresh f_Desk_refresh fd ∧ L2.Binds K fd P_Desk_refresh [])
    (hm_Desk_refresh : Meth K c_Desk "refresh" f_Desk_refresh)
    (ha_Desk_ages : PySem.W.findIn K (.ref c_Desk) "ages" = some (some (.ref f_Desk_ages)))
    (hf_Desk_ages : ∃ fd, Fun K "ages" "Desk.ages" s_Desk_ages f_Desk_ages fd ∧ L2.Binds K fd P_Desk_ages [])
    (hm_Desk_ages : Meth K c_Desk "ages" f_Desk_ages)
    (ha_Desk_read : PySem.W.findIn K (.ref c_Desk) "read" = some (some (.ref f_Desk_read)))
    (hf_Desk_read : ∃ fd, Fun K "read" "Desk.read" s_Desk_read f_Desk_read fd ∧ L2.Binds K fd P_Desk_read [])
    (hm_Desk_read : Meth K c_Desk "read" f_Desk_read)
    (ha_Desk_together : PySem.W.findIn K (.ref c_Desk) "together" = some (some (.ref f_Desk_together)))
    (hf_Desk_together : ∃ fd, Fun K "together" "Desk.together" s_Desk_together f_Desk_together fd ∧ L2.Binds K fd P_Desk_together [])
    (hm_Desk_together : Meth K c_Desk "together" f_Desk_together)
    (ha_Desk_was : PySem.W.findIn K (.ref c_Desk) "was" = some (some (.ref f_Desk_was)))
    (hf_Desk_was : ∃ fd, Fun K "was" "Desk.was" s_Desk_was f_Desk_was fd ∧ L2.Binds K fd P_Desk_was [])
    (hm_Desk_was : Meth K c_Desk "was" f_Desk_was)
    (ha_Desk_asked : PySem.W.findIn K (.ref c_Desk) "asked" = some (some (.ref f_Desk_asked)))
    (hf_Desk_asked : ∃ fd, Fun K "asked" "Desk.asked" s_Desk_asked f_Desk_asked fd ∧ L2.Binds K fd P_Desk_asked [])
    (hm_Desk_asked : Meth K c_Desk "asked" f_Desk_asked)
    (ha_Desk_answer : PySem.W.findIn K (.ref c_Desk) "answer" = some (some (.ref f_Desk_answer)))
    (hf_Desk_answer : ∃ fd, Fun K "answer" "Desk.answer" s_Desk_answer f_Desk_answer fd ∧ L2.Binds K fd P_Desk_answer [])
    (hm_Desk_answer : Meth K c_Desk "answer" f_Desk_answer)
    (ha_rows_at : PySem.W.nsIn K mainGlobals "rows_at" = some (some (.ref f_rows_at)))
    (hf_rows_at : ∃ fd, Fun K "rows_at" "rows_at" s_rows_at f_rows_at fd ∧ L2.Binds K fd P_rows_at [])
    (hk_rows_at : PySem.W.keepIn K (.ref f_rows_at) = true)
    (ha_answers : PySem.W.nsIn K mainGlobals "answers" = some (some (.ref f_answers)))
    (la : K.lookup f_answers = some ⟨oc, od, .func (PySem.W.fnOf "answers" "answers" (defArgs s_answers) (defBody s_answers) (defScope s_answers) .none kV dc pm an cd ct), sl⟩)
    (ca : PySem.W.codeIn K cd "answers" = true)
    (ka : PySem.W.keepIn K (.ref f_answers) = true)
    (hk_answers : PySem.W.keepIn K (.ref f_answers) = true)
    (hl_Kept : Cls K c_Kept)
    (hq_Kept : Mk K c_Kept f_Kept_init)
    (hz_Kept_lines_kept : PySem.W.findIn K (.ref c_Kept) "lines_kept" = some none)
    (hz_Kept_made : PySem.W.findIn K (.ref c_Kept) "made" = some none)
    (hl_Store : Cls K c_Store)
    (hq_Store : Mk K c_Store f_Store_init)
    (hz_Store_many : PySem.W.findIn K (.ref c_Store) "many" = some none)
    (hz_Store_history : PySem.W.findIn K (.ref c_Store) "history" = some none)
    (hz_Store_changes : PySem.W.findIn K (.ref c_Store) "changes" = some none)
    (hz_Store_kept : PySem.W.findIn K (.ref c_Store) "kept" = some none)
    (hL_Fault : K.lookup c_Fault = some (excClassObj nmFault qFault c_Fault NFault bsFault [.type "ValueError", .type "Exception", .type "BaseException", .type "object"] true snFault subFault abFault colFault ddFault m0Fault m1Fault m2Fault m3Fault m5Fault "ValueError.__new__"))
    (hS_Fault : PySem.W.findIn K (.ref c_Fault) "__setattr__" = some (some (.builtin "object.__setattr__")))
    (hE_Fault : PySem.W.subIn K (.ref c_Fault) (.type "BaseException") = some true)
    (hT_Fault : PySem.W.typeIn K (.ref c_Fault) = some (.type "type"))
    (hK_Fault : PySem.W.keepIn K (.ref c_Fault) = true)
    (ht_Fault : PySem.W.typeIn K (.ref f_Fault_init) = some (.type "function"))
    (hy_Fault : XfC K c_Fault)
    (he_Fault : PySem.W.exmOne K (.ref c_Fault) (.ref c_Fault) = some true)
    (hz_Fault_code : PySem.W.findIn K (.ref c_Fault) "code" = some none)
    (hz_Fault_place : PySem.W.findIn K (.ref c_Fault) "place" = some none)
    (hl_Table : Cls K c_Table)
    (hq_Table : Mk K c_Table f_Table_init)
    (hz_Table_columns : PySem.W.findIn K (.ref c_Table) "columns" = some none)
    (hz_Table_rows : PySem.W.findIn K (.ref c_Table) "rows" = some none)
    (hz_Table_questions : PySem.W.findIn K (.ref c_Table) "questions" = some none)
    (hl_Reader : Cls K c_Reader)
    (hq_Reader : Mk K c_Reader f_Reader_init)
    (hz_Reader_tokens : PySem.W.findIn K (.ref c_Reader) "tokens" = some none)
    (hz_Reader_at : PySem.W.findIn K (.ref c_Reader) "at" = some none)
    (hz_Reader_table : PySem.W.findIn K (.ref c_Reader) "table" = some none)
    (hL_Refused : K.lookup c_Refused = some (excClassObj nmRefused qRefused c_Refused NRefused bsRefused [.type "ValueError", .type "Exception", .type "BaseException", .type "object"] true snRefused subRefused abRefused colRefused ddRefused m0Refused m1Refused m2Refused m3Refused m5Refused "ValueError.__new__"))
    (hS_Refused : PySem.W.findIn K (.ref c_Refused) "__setattr__" = some (some (.builtin "object.__setattr__")))
    (hE_Refused : PySem.W.subIn K (.ref c_Refused) (.type "BaseException") = some true)
    (hT_Refused : PySem.W.typeIn K (.ref c_Refused) = some (.type "type"))
    (hK_Refused : PySem.W.keepIn K (.ref c_Refused) = true)
    (ht_Refused : PySem.W.typeIn K (.ref f_Refused_init) = some (.type "function"))
    (hy_Refused : XfC K c_Refused)
    (he_Refused : PySem.W.exmOne K (.ref c_Refused) (.ref c_Refused) = some true)
    (hz_Refused_number : PySem.W.findIn K (.ref c_Refused) "number" = some none)
    (hl_Desk : Cls K c_Desk)
    (hq_Desk : Mk K c_Desk f_Desk_init)
    (hz_Desk_store : PySem.W.findIn K (.ref c_Desk) "store" = some none)
    : ∃ fd : FuncData, (∀ (s : Shared) (us : List Value), us.length = (P_answers).length → BindsTo s fd ⟨us, []⟩ ((P_answers).zip us)) ∧ ∀ base : Heap, K.In base → base.Ns mainGlobals mg → FnOk P w K mg base CX0 12 fa fd P_answers (sp_answers K) := by
  have e := hfa.symm.trans (PySem.W.mg_of X G ha_answers)
  cases e
  have T : Txt K mg ⟨f_columns_of, f_has_all, f_group_of, f_with_more, f_answer_of, f_worked_out, f_lines_told, f_Kept_init, f_Store_init, f_Store_rows_now, f_Store_is_grouping, f_Store_put, f_Store_take, f_Store_keep, f_Store_age, f_Store_since, f_Store_touched, f_Store_refresh, f_Store_lines, f_Store_read_from, f_Store_answer_from, f_Store_cheapest, f_Fault_init, f_sign_of, f_run_end, f_remark_end, f_worth_of, f_number_at, f_token_at, f_tokens_of, f_Table_init, f_Reader_init, f_Reader_comes, f_Reader_want, f_Reader_take, f_Reader_read, f_Reader_next_name, f_Reader_read_number, f_Reader_begin, f_Reader_column, f_Reader_all_columns, f_Reader_summed, f_Reader_row, f_Reader_asked_column, f_Reader_asked_columns, f_Reader_question, f_Reader_whole, f_read_table, f_Refused_init, f_want, f_Desk_init, f_Desk_load, f_Desk_want_groupings, f_Desk_counts, f_Desk_keep, f_Desk_put, f_Desk_take, f_Desk_refresh, f_Desk_ages, f_Desk_read, f_Desk_together, f_Desk_was, f_Desk_asked, f_Desk_answer, f_rows_at, fa, c_Kept, c_Store, c_Fault, c_Table, c_Reader, c_Refused, c_Desk, a_WORDS, a_BLANKS, a_FORMS, a_F0, a_F1, a_F2, a_F3, a_F4, a_F5, a_F6, a_F7, a_F8⟩ := {
    c_PUT := hc_PUT,
    c_TAKEN_keeping := hc_TAKEN_keeping,
    c_BY_CHANGES := hc_BY_CHANGES,
    c_BY_TABLE := hc_BY_TABLE,
    c_NAME := hc_NAME,
    c_WORD := hc_WORD,
    c_NUMBER := hc_NUMBER,
    c_SIGN := hc_SIGN,
    c_END := hc_END,
    g_WORDS := PySem.W.mg_of X G hg_WORDS,
    w_WORDS := hw_WORDS,
    c_LETTERS := hc_LETTERS,
    c_DIGITS := hc_DIGITS,
    c_SIGNS := hc_SIGNS,
    g_BLANKS := PySem.W.mg_of X G hg_BLANKS,
    w_BLANKS := hw_BLANKS,
    c_REMARK := hc_REMARK,
    c_LINE_END := hc_LINE_END,
    c_LONGEST_NAME := hc_LONGEST_NAME,
    c_MOST_NUMBER := hc_MOST_NUMBER,
    c_UNKNOWN := hc_UNKNOWN,
    c_NO_TOKEN := hc_NO_TOKEN,
    c_LONG_TEXT := hc_LONG_TEXT,
    c_MISPLACED := hc_MISPLACED,
    c_TOO_MANY_reading := hc_TOO_MANY_reading,
    c_TAKEN_reading := hc_TAKEN_reading,
    c_TWICE := hc_TWICE,
    c_OUT_OF_BOUNDS := hc_OUT_OF_BOUNDS,
    c_NO_COLUMN := hc_NO_COLUMN,
    c_MOST_BYTES := hc_MOST_BYTES,
    c_MOST_COLUMNS := hc_MOST_COLUMNS,
    c_MOST_ROWS := hc_MOST_ROWS,
    c_MOST_QUESTIONS := hc_MOST_QUESTIONS,
    c_MOST_VALUE := hc_MOST_VALUE,
    c_MOST_SUMMED := hc_MOST_SUMMED,
    c_MOST_TIMES := hc_MOST_TIMES,
    c_NO_TABLE := hc_NO_TABLE,
    c_NO_GROUPING := hc_NO_GROUPING,
    c_NO_ROW := hc_NO_ROW,
    c_NO_VALUES := hc_NO_VALUES,
    c_NOT_KEPT := hc_NOT_KEPT,
    c_FULL := hc_FULL,
    c_TOO_MANY_tables := hc_TOO_MANY_tables,
    c_BELOW := hc_BELOW,
    c_NOT_SO_MANY := hc_NOT_SO_MANY,
    c_MOST_CHANGES := hc_MOST_CHANGES,
    g_FORMS := PySem.W.mg_of X G hg_FORMS,
    w_FORMS := hw_FORMS,
    w_F0 := hw_F0,
    w_F1 := hw_F1,
    w_F2 := hw_F2,
    w_F3 := hw_F3,
    w_F4 := hw_F4,
    w_F5 := hw_F5,
    w_F6 := hw_F6,
    w_F7 := hw_F7,
    w_F8 := hw_F8,
    n_ValueError := PySem.W.mg_none_of X G hn_ValueError,
    n_all := PySem.W.mg_none_of X G hn_all,
    n_dict := PySem.W.mg_none_of X G hn_dict,
    n_enumerate := PySem.W.mg_none_of X G hn_enumerate,
    n_len := PySem.W.mg_none_of X G hn_len,
    n_list := PySem.W.mg_none_of X G hn_list,
    n_min := PySem.W.mg_none_of X G hn_min,
    n_ord := PySem.W.mg_none_of X G hn_ord,
    n_range := PySem.W.mg_none_of X G hn_range,
    n_set := PySem.W.mg_none_of X G hn_set,
    n_sorted := PySem.W.mg_none_of X G hn_sorted,
    n_sum := PySem.W.mg_none_of X G hn_sum,
    n_tuple := PySem.W.mg_none_of X G hn_tuple,
    vinit := h_vinit,
    F_columns_of := hf_columns_of,
    g_columns_of := PySem.W.mg_of X G ha_columns_of,
    k_columns_of := hk_columns_of,
    F_has_all := hf_has_all,
    g_has_all := PySem.W.mg_of X G ha_has_all,
    k_has_all := hk_has_all,
    F_group_of := hf_group_of,
    g_group_of := PySem.W.mg_of X G ha_group_of,
    k_group_of := hk_group_of,
    F_with_more := hf_with_more,
    g_with_more := PySem.W.mg_of X G ha_with_more,
    k_with_more := hk_with_more,
    F_answer_of := hf_answer_of,
    g_answer_of := PySem.W.mg_of X G ha_answer_of,
    k_answer_of := hk_answer_of,
    F_worked_out := hf_worked_out,
    g_worked_out := PySem.W.mg_of X G ha_worked_out,
    k_worked_out := hk_worked_out,
    F_lines_told := hf_lines_told,
    g_lines_told := PySem.W.mg_of X G ha_lines_told,
    k_lines_told := hk_lines_told,
    F_Kept_init := hf_Kept_init,
    F_Store_init := hf_Store_init,
    F_Store_rows_now := hf_Store_rows_now,
    m_Store_rows_now := hm_Store_rows_now,
    F_Store_is_grouping := hf_Store_is_grouping,
    m_Store_is_grouping := hm_Store_is_grouping,
    F_Store_put := hf_Store_put,
    m_Store_put := hm_Store_put,
    F_Store_take := hf_Store_take,
    m_Store_take := hm_Store_take,
    F_Store_keep := hf_Store_keep,
    m_Store_keep := hm_Store_keep,
    F_Store_age := hf_Store_age,
    m_Store_age := hm_Store_age,
    F_Store_since := hf_Store_since,
    m_Store_since := hm_Store_since,
    F_Store_touched := hf_Store_touched,
    m_Store_touched := hm_Store_touched,
    F_Store_refresh := hf_Store_refresh,
    m_Store_refresh := hm_Store_refresh,
    F_Store_lines := hf_Store_lines,
    m_Store_lines := hm_Store_lines,
    F_Store_read_from := hf_Store_read_from,
    m_Store_read_from := hm_Store_read_from,
    F_Store_answer_from := hf_Store_answer_from,
    m_Store_answer_from := hm_Store_answer_from,
    F_Store_cheapest := hf_Store_cheapest,
    m_Store_cheapest := hm_Store_cheapest,
    F_Fault_init := hf_Fault_init,
    F_sign_of := hf_sign_of,
    g_sign_of := PySem.W.mg_of X G ha_sign_of,
    k_sign_of := hk_sign_of,
    F_run_end := hf_run_end,
    g_run_end := PySem.W.mg_of X G ha_run_end,
    k_run_end := hk_run_end,
    F_remark_end := hf_remark_end,
    g_remark_end := PySem.W.mg_of X G ha_remark_end,
    k_remark_end := hk_remark_end,
    F_worth_of := hf_worth_of,
    g_worth_of := PySem.W.mg_of X G ha_worth_of,
    k_worth_of := hk_worth_of,
    F_number_at := hf_number_at,
    g_number_at := PySem.W.mg_of X G ha_number_at,
    k_number_at := hk_number_at,
    F_token_at := hf_token_at,
    g_token_at := PySem.W.mg_of X G ha_token_at,
    k_token_at := hk_token_at,
    F_tokens_of := hf_tokens_of,
    g_tokens_of := PySem.W.mg_of X G ha_tokens_of,
    k_tokens_of := hk_tokens_of,
    F_Table_init := hf_Table_init,
    F_Reader_init := hf_Reader_init,
    F_Reader_comes := hf_Reader_comes,
    m_Reader_comes := hm_Reader_comes,
    F_Reader_want := hf_Reader_want,
    m_Reader_want := hm_Reader_want,
    F_Reader_take := hf_Reader_take,
    m_Reader_take := hm_Reader_take,
    F_Reader_read := hf_Reader_read,
    m_Reader_read := hm_Reader_read,
    F_Reader_next_name := hf_Reader_next_name,
    m_Reader_next_name := hm_Reader_next_name,
    F_Reader_read_number := hf_Reader_read_number,
    m_Reader_read_number := hm_Reader_read_number,
    F_Reader_begin := hf_Reader_begin,
    m_Reader_begin := hm_Reader_begin,
    F_Reader_column := hf_Reader_column,
    m_Reader_column := hm_Reader_column,
    F_Reader_all_columns := hf_Reader_all_columns,
    m_Reader_all_columns := hm_Reader_all_columns,
    F_Reader_summed := hf_Reader_summed,
    m_Reader_summed := hm_Reader_summed,
    F_Reader_row := hf_Reader_row,
    m_Reader_row := hm_Reader_row,
    F_Reader_asked_column := hf_Reader_asked_column,
    m_Reader_asked_column := hm_Reader_asked_column,
    F_Reader_asked_columns := hf_Reader_asked_columns,
    m_Reader_asked_columns := hm_Reader_asked_columns,
    F_Reader_question := hf_Reader_question,
    m_Reader_question := hm_Reader_question,
    F_Reader_whole := hf_Reader_whole,
    m_Reader_whole := hm_Reader_whole,
    F_read_table := hf_read_table,
    g_read_table := PySem.W.mg_of X G ha_read_table,
    k_read_table := hk_read_table,
    F_Refused_init := hf_Refused_init,
    F_want := hf_want,
    g_want := PySem.W.mg_of X G ha_want,
    k_want := hk_want,
    F_Desk_init := hf_Desk_init,
    F_Desk_load := hf_Desk_load,
    m_Desk_load := hm_Desk_load,
    F_Desk_want_groupings := hf_Desk_want_groupings,
    m_Desk_want_groupings := hm_Desk_want_groupings,
    F_Desk_counts := hf_Desk_counts,
    m_Desk_counts := hm_Desk_counts,
    F_Desk_keep := hf_Desk_keep,
    m_Desk_keep := hm_Desk_keep,
    F_Desk_put := hf_Desk_put,
    m_Desk_put := hm_Desk_put,
    F_Desk_take := hf_Desk_take,
    m_Desk_take := hm_Desk_take,
    F_Desk_refresh := hf_Desk_refresh,
    m_Desk_refresh := hm_Desk_refresh,
    F_Desk_ages := hf_Desk_ages,
    m_Desk_ages := hm_Desk_ages,
    F_Desk_read := hf_Desk_read,
    m_Desk_read := hm_Desk_read,
    F_Desk_together := hf_Desk_together,
    m_Desk_together := hm_Desk_together,
    F_Desk_was := hf_Desk_was,
    m_Desk_was := hm_Desk_was,
    F_Desk_asked := hf_Desk_asked,
    m_Desk_asked := hm_Desk_asked,
    F_Desk_answer := hf_Desk_answer,
    m_Desk_answer := hm_Desk_answer,
    F_rows_at := hf_rows_at,
    g_rows_at := PySem.W.mg_of X G ha_rows_at,
    k_rows_at := hk_rows_at,
    F_answers := fe_answers la ca ka,
    g_answers := PySem.W.mg_of X G ha_answers,
    k_answers := hk_answers,
    g_Kept := PySem.W.mg_of X G hg_Kept,
    cl_Kept := hl_Kept,
    mk_Kept := hq_Kept,
    na_Kept_lines_kept := hz_Kept_lines_kept,
    na_Kept_made := hz_Kept_made,
    g_Store := PySem.W.mg_of X G hg_Store,
    cl_Store := hl_Store,
    mk_Store := hq_Store,
    na_Store_many := hz_Store_many,
    na_Store_history := hz_Store_history,
    na_Store_changes := hz_Store_changes,
    na_Store_kept := hz_Store_kept,
    g_Fault := PySem.W.mg_of X G hg_Fault,
    oex_Fault := ⟨⟨_, _, _, _, _, _, _, _, _, _, _, _, _, _, _, hL_Fault, by decide +kernel⟩, hS_Fault, hE_Fault, hT_Fault, hK_Fault⟩,
    i_Fault := ha_Fault_init,
    t_Fault := ht_Fault,
    xf_Fault := hy_Fault,
    te_Fault := he_Fault,
    xn_Fault_code := hz_Fault_code,
    xn_Fault_place := hz_Fault_place,
    g_Table := PySem.W.mg_of X G hg_Table,
    cl_Table := hl_Table,
    mk_Table := hq_Table,
    na_Table_columns := hz_Table_columns,
    na_Table_rows := hz_Table_rows,
    na_Table_questions := hz_Table_questions,
    g_Reader := PySem.W.mg_of X G hg_Reader,
    cl_Reader := hl_Reader,
    mk_Reader := hq_Reader,
    na_Reader_tokens := hz_Reader_tokens,
    na_Reader_at := hz_Reader_at,
    na_Reader_table := hz_Reader_table,
    g_Refused := PySem.W.mg_of X G hg_Refused,
    oex_Refused := ⟨⟨_, _, _, _, _, _, _, _, _, _, _, _, _, _, _, hL_Refused, by decide +kernel⟩, hS_Refused, hE_Refused, hT_Refused, hK_Refused⟩,
    i_Refused := ha_Refused_init,
    t_Refused := ht_Refused,
    xf_Refused := hy_Refused,
    te_Refused := he_Refused,
    xn_Refused_number := hz_Refused_number,
    g_Desk := PySem.W.mg_of X G hg_Desk,
    cl_Desk := hl_Desk,
    mk_Desk := hq_Desk,
    na_Desk_store := hz_Desk_store
  }
  have F := fun_mk (st := s_answers) la ca ka
  exact ⟨_, fun s us hu => match us, hu with | [_], _ => .of_eq rfl, fun base _ _ => ok_answers (P := P) (w := w) T F base⟩
theorem request (K : PySem.W.Frag) (H : Hp) (xs : List V) (a : Codec.denoteAll PySem.Challenge.rw_keptready_s01_answers.args) (hwi : Codec.withinAll PySem.Challenge.rw_keptready_s01_answers.args a = true) (hask : Codec.app PySem.Challenge.rw_keptready_s01_answers.args PySem.Challenge.rw_keptready_s01_answers.asked a = true)
    (hx : DwAll K H xs (Codec.encAll PySem.Challenge.rw_keptready_s01_answers.args a)) : sp_answers K xs H (fun v H' => Dw K H' v (PySem.Challenge.rw_keptready_s01_answers.ret.enc (Codec.app PySem.Challenge.rw_keptready_s01_answers.args PySem.Challenge.rw_keptready_s01_answers.f a))) fun _ _ _ => False := by
  cases hx with
  | cons h1 h2 =>
    cases h2
    cases h1 with
    | lst hs ha =>
      have e := L2.ints_dw a.1 _ ha
      subst e
      have q : ((Codec.inLen 0 17000 a.1 && a.1.all (Codec.inInt (Int.negSucc 999999999999999999) (Int.ofNat 1000000000000000000))) && true) = true := hwi
      rw [Bool.and_eq_true, Bool.and_eq_true] at q
      have len := (Codec.inNat_iff.mp q.1.1).2
      exact ⟨_, a.1, rfl, hs, Nat.le_trans len (by decide), hask, fun H' p e hp => .lst (L2.SqL.of hp) (L2.dw_ints _)⟩
end KR
end
section
open PySem PySem.W PyProof.Rows
set_option maxRecDepth 100000 in
set_option maxHeartbeats 8000000 in
set_option pp.maxSteps 300 in
theorem PySem.Challenge.cw_keptready_s01_answers_holds : PySem.Challenge.rw_keptready_s01_answers.Holds := by
  w_on; k_headS; (case hw => exact ⟨[.list [.int 5]], by decide +kernel, by decide +kernel⟩)
  k_fillS
  refine L2.walk_specK (r := PySem.Challenge.rw_keptready_s01_answers) (k := 12) (CX := L2.CX0) (ps := KR.P_answers) (sp := KR.sp_answers) (by decide +kernel) rfl rfl ⟨rfl, by decide, by decide⟩ (fun w h Y => PySem.W.kIn_of Y) ?F ?S (fun _ _ _ _ z => z)
  case F =>
    intro w mg fa h Y KX G hmg
    refine' KR.all_mk KX G hmg ?hc_PUT ?hc_TAKEN_keeping ?hc_BY_CHANGES ?hc_BY_TABLE ?hc_NAME ?hc_WORD ?hc_NUMBER ?hc_SIGN ?hc_END ?hg_WORDS ?hw_WORDS ?hc_LETTERS ?hc_DIGITS ?hc_SIGNS ?hg_BLANKS ?hw_BLANKS ?hc_REMARK ?hc_LINE_END ?hc_LONGEST_NAME ?hc_MOST_NUMBER ?hc_UNKNOWN ?hc_NO_TOKEN ?hc_LONG_TEXT ?hc_MISPLACED ?hc_TOO_MANY_reading ?hc_TAKEN_reading ?hc_TWICE ?hc_OUT_OF_BOUNDS ?hc_NO_COLUMN ?hc_MOST_BYTES ?hc_MOST_COLUMNS ?hc_MOST_ROWS ?hc_MOST_QUESTIONS ?hc_MOST_VALUE ?hc_MOST_SUMMED ?hc_MOST_TIMES ?hc_NO_TABLE ?hc_NO_GROUPING ?hc_NO_ROW ?hc_NO_VALUES ?hc_NOT_KEPT ?hc_FULL ?hc_TOO_MANY_tables ?hc_BELOW ?hc_NOT_SO_MANY ?hc_MOST_CHANGES ?hg_FORMS ?hw_FORMS ?hw_F0 ?hw_F1 ?hw_F2 ?hw_F3 ?hw_F4 ?hw_F5 ?hw_F6 ?hw_F7 ?hw_F8 ?hn_ValueError ?hn_all ?hn_dict ?hn_enumerate ?hn_len ?hn_list ?hn_min ?hn_ord ?hn_range ?hn_set ?hn_sorted ?hn_sum ?hn_tuple ?h_vinit ?hg_Kept ?hg_Store ?hg_Fault ?hg_Table ?hg_Reader ?hg_Refused ?hg_Desk ?ha_columns_of ?hf_columns_of ?hk_columns_of ?ha_has_all ?hf_has_all ?hk_has_all ?ha_group_of ?hf_group_of ?hk_group_of ?ha_with_more ?hf_with_more ?hk_with_more ?ha_answer_of ?hf_answer_of ?hk_answer_of ?ha_worked_out ?hf_worked_out ?hk_worked_out ?ha_lines_told ?hf_lines_told ?hk_lines_told ?ha_Kept_init ?hf_Kept_init ?ha_Store_init ?hf_Store_init ?ha_Store_rows_now ?hf_Store_rows_now ?hm_Store_rows_now ?ha_Store_is_grouping ?hf_Store_is_grouping ?hm_Store_is_grouping ?ha_Store_put ?hf_Store_put ?hm_Store_put ?ha_Store_take ?hf_Store_take ?hm_Store_take ?ha_Store_keep ?hf_Store_keep ?hm_Store_keep ?ha_Store_age ?hf_Store_age ?hm_Store_age ?ha_Store_since ?hf_Store_since ?hm_Store_since ?ha_Store_touched ?hf_Store_touched ?hm_Store_touched ?ha_Store_refresh ?hf_Store_refresh ?hm_Store_refresh ?ha_Store_lines ?hf_Store_lines ?hm_Store_lines ?ha_Store_read_from ?hf_Store_read_from ?hm_Store_read_from ?ha_Store_answer_from ?hf_Store_answer_from ?hm_Store_answer_from ?ha_Store_cheapest ?hf_Store_cheapest ?hm_Store_cheapest ?ha_Fault_init ?hf_Fault_init ?ha_sign_of ?hf_sign_of ?hk_sign_of ?ha_run_end ?hf_run_end ?hk_run_end ?ha_remark_end ?hf_remark_end ?hk_remark_end ?ha_worth_of ?hf_worth_of ?hk_worth_of ?ha_number_at ?hf_number_at ?hk_number_at ?ha_token_at ?hf_token_at ?hk_token_at ?ha_tokens_of ?hf_tokens_of ?hk_tokens_of ?ha_Table_init ?hf_Table_init ?ha_Reader_init ?hf_Reader_init ?ha_Reader_comes ?hf_Reader_comes ?hm_Reader_comes ?ha_Reader_want ?hf_Reader_want ?hm_Reader_want ?ha_Reader_take ?hf_Reader_take ?hm_Reader_take ?ha_Reader_read ?hf_Reader_read ?hm_Reader_read ?ha_Reader_next_name ?hf_Reader_next_name ?hm_Reader_next_name ?ha_Reader_read_number ?hf_Reader_read_number ?hm_Reader_read_number ?ha_Reader_begin ?hf_Reader_begin ?hm_Reader_begin ?ha_Reader_column ?hf_Reader_column ?hm_Reader_column ?ha_Reader_all_columns ?hf_Reader_all_columns ?hm_Reader_all_columns ?ha_Reader_summed ?hf_Reader_summed ?hm_Reader_summed ?ha_Reader_row ?hf_Reader_row ?hm_Reader_row ?ha_Reader_asked_column ?hf_Reader_asked_column ?hm_Reader_asked_column ?ha_Reader_asked_columns ?hf_Reader_asked_columns ?hm_Reader_asked_columns ?ha_Reader_question ?hf_Reader_question ?hm_Reader_question ?ha_Reader_whole ?hf_Reader_whole ?hm_Reader_whole ?ha_read_table ?hf_read_table ?hk_read_table ?ha_Refused_init ?hf_Refused_init ?ha_want ?hf_want ?hk_want ?ha_Desk_init ?hf_Desk_init ?ha_Desk_load ?hf_Desk_load ?hm_Desk_load ?ha_Desk_want_groupings ?hf_Desk_want_groupings ?hm_Desk_want_groupings ?ha_Desk_counts ?hf_Desk_counts ?hm_Desk_counts ?ha_Desk_keep ?hf_Desk_keep ?hm_Desk_keep ?ha_Desk_put ?hf_Desk_put ?hm_Desk_put ?ha_Desk_take ?hf_Desk_take ?hm_Desk_take ?ha_Desk_refresh ?hf_Desk_refresh ?hm_Desk_refresh ?ha_Desk_ages ?hf_Desk_ages ?hm_Desk_ages ?ha_Desk_read ?hf_Desk_read ?hm_Desk_read ?ha_Desk_together ?hf_Desk_together ?hm_Desk_together ?ha_Desk_was ?hf_Desk_was ?hm_Desk_was ?ha_Desk_asked ?hf_Desk_asked ?hm_Desk_asked ?ha_Desk_answer ?hf_Desk_answer ?hm_Desk_answer ?ha_rows_at ?hf_rows_at ?hk_rows_at ?ha_answers ?la ?ca ?ka ?hk_answers ?hl_Kept ?hq_Kept ?hz_Kept_lines_kept ?hz_Kept_made ?hl_Store ?hq_Store ?hz_Store_many ?hz_Store_history ?hz_Store_changes ?hz_Store_kept ?hL_Fault ?hS_Fault ?hE_Fault ?hT_Fault ?hK_Fault ?ht_Fault ?hy_Fault ?he_Fault ?hz_Fault_code ?hz_Fault_place ?hl_Table ?hq_Table ?hz_Table_columns ?hz_Table_rows ?hz_Table_questions ?hl_Reader ?hq_Reader ?hz_Reader_tokens ?hz_Reader_at ?hz_Reader_table ?hL_Refused ?hS_Refused ?hE_Refused ?hT_Refused ?hK_Refused ?ht_Refused ?hy_Refused ?he_Refused ?hz_Refused_number ?hl_Desk ?hq_Desk ?hz_Desk_store
    (case hc_PUT => exact ⟨_, PySem.W.mg_of KX G (v := .int (1) _) (by k_is)⟩)
    (case hc_TAKEN_keeping => exact ⟨_, PySem.W.mg_of KX G (v := .int (-1) _) (by k_is)⟩)
    (case hc_BY_CHANGES => exact ⟨_, PySem.W.mg_of KX G (v := .int (-1) _) (by k_is)⟩)
    (case hc_BY_TABLE => exact ⟨_, PySem.W.mg_of KX G (v := .int (-1) _) (by k_is)⟩)
    (case hc_NAME => exact ⟨_, PySem.W.mg_of KX G (v := .str "name" _) (by k_is)⟩)
    (case hc_WORD => exact ⟨_, PySem.W.mg_of KX G (v := .str "word" _) (by k_is)⟩)
    (case hc_NUMBER => exact ⟨_, PySem.W.mg_of KX G (v := .str "number" _) (by k_is)⟩)
    (case hc_SIGN => exact ⟨_, PySem.W.mg_of KX G (v := .str "sign" _) (by k_is)⟩)
    (case hc_END => exact ⟨_, PySem.W.mg_of KX G (v := .str "end" _) (by k_is)⟩)
    (case hg_WORDS => k_is)
    (case hw_WORDS => exact KR.tupS4 (by k_is))
    (case hc_LETTERS => exact ⟨_, PySem.W.mg_of KX G (v := .str "abcdefghijklmnopqrstuvwxyzABCDEFGHIJKLMNOPQRSTUVWXYZ" _) (by k_is)⟩)
    (case hc_DIGITS => exact ⟨_, PySem.W.mg_of KX G (v := .str "0123456789" _) (by k_is)⟩)
    (case hc_SIGNS => exact ⟨_, PySem.W.mg_of KX G (v := .str ",:;-" _) (by k_is)⟩)
    (case hg_BLANKS => k_is)
    (case hw_BLANKS => exact KR.tupI3 (by k_is))
    (case hc_REMARK => exact ⟨_, PySem.W.mg_of KX G (v := .int (35) _) (by k_is)⟩)
    (case hc_LINE_END => exact ⟨_, PySem.W.mg_of KX G (v := .int (10) _) (by k_is)⟩)
    (case hc_LONGEST_NAME => exact ⟨_, PySem.W.mg_of KX G (v := .int (16) _) (by k_is)⟩)
    (case hc_MOST_NUMBER => exact ⟨_, PySem.W.mg_of KX G (v := .int (1000000000) _) (by k_is)⟩)
    (case hc_UNKNOWN => exact ⟨_, PySem.W.mg_of KX G (v := .str "?" _) (by k_is)⟩)
    (case hc_NO_TOKEN => exact ⟨_, PySem.W.mg_of KX G (v := .int (2) _) (by k_is)⟩)
    (case hc_LONG_TEXT => exact ⟨_, PySem.W.mg_of KX G (v := .int (1) _) (by k_is)⟩)
    (case hc_MISPLACED => exact ⟨_, PySem.W.mg_of KX G (v := .int (3) _) (by k_is)⟩)
    (case hc_TOO_MANY_reading => exact ⟨_, PySem.W.mg_of KX G (v := .int (4) _) (by k_is)⟩)
    (case hc_TAKEN_reading => exact ⟨_, PySem.W.mg_of KX G (v := .int (5) _) (by k_is)⟩)
    (case hc_TWICE => exact ⟨_, PySem.W.mg_of KX G (v := .int (6) _) (by k_is)⟩)
    (case hc_OUT_OF_BOUNDS => exact ⟨_, PySem.W.mg_of KX G (v := .int (7) _) (by k_is)⟩)
    (case hc_NO_COLUMN => exact ⟨_, PySem.W.mg_of KX G (v := .int (8) _) (by k_is)⟩)
    (case hc_MOST_BYTES => exact ⟨_, PySem.W.mg_of KX G (v := .int (4096) _) (by k_is)⟩)
    (case hc_MOST_COLUMNS => exact ⟨_, PySem.W.mg_of KX G (v := .int (4) _) (by k_is)⟩)
    (case hc_MOST_ROWS => exact ⟨_, PySem.W.mg_of KX G (v := .int (16) _) (by k_is)⟩)
    (case hc_MOST_QUESTIONS => exact ⟨_, PySem.W.mg_of KX G (v := .int (8) _) (by k_is)⟩)
    (case hc_MOST_VALUE => exact ⟨_, PySem.W.mg_of KX G (v := .int (9) _) (by k_is)⟩)
    (case hc_MOST_SUMMED => exact ⟨_, PySem.W.mg_of KX G (v := .int (1000) _) (by k_is)⟩)
    (case hc_MOST_TIMES => exact ⟨_, PySem.W.mg_of KX G (v := .int (99) _) (by k_is)⟩)
    (case hc_NO_TABLE => exact ⟨_, PySem.W.mg_of KX G (v := .int (-1) _) (by k_is)⟩)
    (case hc_NO_GROUPING => exact ⟨_, PySem.W.mg_of KX G (v := .int (-2) _) (by k_is)⟩)
    (case hc_NO_ROW => exact ⟨_, PySem.W.mg_of KX G (v := .int (-3) _) (by k_is)⟩)
    (case hc_NO_VALUES => exact ⟨_, PySem.W.mg_of KX G (v := .int (-4) _) (by k_is)⟩)
    (case hc_NOT_KEPT => exact ⟨_, PySem.W.mg_of KX G (v := .int (-5) _) (by k_is)⟩)
    (case hc_FULL => exact ⟨_, PySem.W.mg_of KX G (v := .int (-6) _) (by k_is)⟩)
    (case hc_TOO_MANY_tables => exact ⟨_, PySem.W.mg_of KX G (v := .int (-7) _) (by k_is)⟩)
    (case hc_BELOW => exact ⟨_, PySem.W.mg_of KX G (v := .int (-8) _) (by k_is)⟩)
    (case hc_NOT_SO_MANY => exact ⟨_, PySem.W.mg_of KX G (v := .int (-9) _) (by k_is)⟩)
    (case hc_MOST_CHANGES => exact ⟨_, PySem.W.mg_of KX G (v := .int (40) _) (by k_is)⟩)
    (case hg_FORMS => k_is)
    (case hw_FORMS => exact KR.tupR9 (by k_is))
    (case hw_F0 => exact KR.tupI2 (by k_is))
    (case hw_F1 => exact KR.tupI2 (by k_is))
    (case hw_F2 => exact KR.tupI2 (by k_is))
    (case hw_F3 => exact KR.tupI2 (by k_is))
    (case hw_F4 => exact KR.tupI2 (by k_is))
    (case hw_F5 => exact KR.tupI2 (by k_is))
    (case hw_F6 => exact KR.tupI2 (by k_is))
    (case hw_F7 => exact KR.tupI2 (by k_is))
    (case hw_F8 => exact KR.tupI2 (by k_is))
    (case hn_ValueError => k_is)
    (case hn_all => k_is)
    (case hn_dict => k_is)
    (case hn_enumerate => k_is)
    (case hn_len => k_is)
    (case hn_list => k_is)
    (case hn_min => k_is)
    (case hn_ord => k_is)
    (case hn_range => k_is)
    (case hn_set => k_is)
    (case hn_sorted => k_is)
    (case hn_sum => k_is)
    (case hn_tuple => k_is)
    (case h_vinit => k_is)
    (case hg_Kept => k_is)
    (case hg_Store => k_is)
    (case hg_Fault => k_is)
    (case hg_Table => k_is)
    (case hg_Reader => k_is)
    (case hg_Refused => k_is)
    (case hg_Desk => k_is)
    (case ha_columns_of => k_is)
    (case hf_columns_of => refine' KR.fe_columns_of ?l ?c ?k; (case l => k_is); (case c => k_is); (case k => k_is))
    (case hk_columns_of => k_is)
    (case ha_has_all => k_is)
    (case hf_has_all => refine' KR.fe_has_all ?l ?c ?k; (case l => k_is); (case c => k_is); (case k => k_is))
    (case hk_has_all => k_is)
    (case ha_group_of => k_is)
    (case hf_group_of => refine' KR.fe_group_of ?l ?c ?k; (case l => k_is); (case c => k_is); (case k => k_is))
    (case hk_group_of => k_is)
    (case ha_with_more => k_is)
    (case hf_with_more => refine' KR.fe_with_more ?l ?c ?k; (case l => k_is); (case c => k_is); (case k => k_is))
    (case hk_with_more => k_is)
    (case ha_answer_of => k_is)
    (case hf_answer_of => refine' KR.fe_answer_of ?l ?c ?k; (case l => k_is); (case c => k_is); (case k => k_is))
    (case hk_answer_of => k_is)
    (case ha_worked_out => k_is)
    (case hf_worked_out => refine' KR.fe_worked_out ?l ?c ?k; (case l => k_is); (case c => k_is); (case k => k_is))
    (case hk_worked_out => k_is)
    (case ha_lines_told => k_is)
    (case hf_lines_told => refine' KR.fe_lines_told ?l ?c ?k; (case l => k_is); (case c => k_is); (case k => k_is))
    (case hk_lines_told => k_is)
    (case ha_Kept_init => k_is)
    (case hf_Kept_init => refine' KR.fe_Kept_init ?l ?c ?k; (case l => k_is); (case c => k_is); (case k => k_is))
    (case ha_Store_init => k_is)
    (case hf_Store_init => refine' KR.fe_Store_init ?l ?c ?k; (case l => k_is); (case c => k_is); (case k => k_is))
    (case ha_Store_rows_now => k_is)
    (case hf_Store_rows_now => refine' KR.fe_Store_rows_now ?l ?c ?k; (case l => k_is); (case c => k_is); (case k => k_is))
    (case hm_Store_rows_now => exact ⟨by k_is, by k_is, by k_is⟩)
    (case ha_Store_is_grouping => k_is)
    (case hf_Store_is_grouping => refine' KR.fe_Store_is_grouping ?l ?c ?k; (case l => k_is); (case c => k_is); (case k => k_is))
    (case hm_Store_is_grouping => exact ⟨by k_is, by k_is, by k_is⟩)
    (case ha_Store_put => k_is)
    (case hf_Store_put => refine' KR.fe_Store_put ?l ?c ?k; (case l => k_is); (case c => k_is); (case k => k_is))
    (case hm_Store_put => exact ⟨by k_is, by k_is, by k_is⟩)
    (case ha_Store_take => k_is)
    (case hf_Store_take => refine' KR.fe_Store_take ?l ?c ?k; (case l => k_is); (case c => k_is); (case k => k_is))
    (case hm_Store_take => exact ⟨by k_is, by k_is, by k_is⟩)
    (case ha_Store_keep => k_is)
    (case hf_Store_keep => refine' KR.fe_Store_keep ?l ?c ?k; (case l => k_is); (case c => k_is); (case k => k_is))
    (case hm_Store_keep => exact ⟨by k_is, by k_is, by k_is⟩)
    (case ha_Store_age => k_is)
    (case hf_Store_age => refine' KR.fe_Store_age ?l ?c ?k; (case l => k_is); (case c => k_is); (case k => k_is))
    (case hm_Store_age => exact ⟨by k_is, by k_is, by k_is⟩)
    (case ha_Store_since => k_is)
    (case hf_Store_since => refine' KR.fe_Store_since ?l ?c ?k; (case l => k_is); (case c => k_is); (case k => k_is))
    (case hm_Store_since => exact ⟨by k_is, by k_is, by k_is⟩)
    (case ha_Store_touched => k_is)
    (case hf_Store_touched => refine' KR.fe_Store_touched ?l ?c ?k; (case l => k_is); (case c => k_is); (case k => k_is))
    (case hm_Store_touched => exact ⟨by k_is, by k_is, by k_is⟩)
    (case ha_Store_refresh => k_is)
    (case hf_Store_refresh => refine' KR.fe_Store_refresh ?l ?c ?k; (case l => k_is); (case c => k_is); (case k => k_is))
    (case hm_Store_refresh => exact ⟨by k_is, by k_is, by k_is⟩)
    (case ha_Store_lines => k_is)
    (case hf_Store_lines => refine' KR.fe_Store_lines ?l ?c ?k; (case l => k_is); (case c => k_is); (case k => k_is))
    (case hm_Store_lines => exact ⟨by k_is, by k_is, by k_is⟩)
    (case ha_Store_read_from => k_is)
    (case hf_Store_read_from => refine' KR.fe_Store_read_from ?l ?c ?k; (case l => k_is); (case c => k_is); (case k => k_is))
    (case hm_Store_read_from => exact ⟨by k_is, by k_is, by k_is⟩)
    (case ha_Store_answer_from => k_is)
    (case hf_Store_answer_from => refine' KR.fe_Store_answer_from ?l ?c ?k; (case l => k_is); (case c => k_is); (case k => k_is))
    (case hm_Store_answer_from => exact ⟨by k_is, by k_is, by k_is⟩)
    (case ha_Store_cheapest => k_is)
    (case hf_Store_cheapest => refine' KR.fe_Store_cheapest ?l ?c ?k; (case l => k_is); (case c => k_is); (case k => k_is))
    (case hm_Store_cheapest => exact ⟨by k_is, by k_is, by k_is⟩)
    (case ha_Fault_init => k_is)
    (case hf_Fault_init => refine' KR.fe_Fault_init ?l ?c ?k; (case l => k_is); (case c => k_is); (case k => k_is))
    (case ha_sign_of => k_is)
    (case hf_sign_of => refine' KR.fe_sign_of ?l ?c ?k; (case l => k_is); (case c => k_is); (case k => k_is))
    (case hk_sign_of => k_is)
    (case ha_run_end => k_is)
    (case hf_run_end => refine' KR.fe_run_end ?l ?c ?k; (case l => k_is); (case c => k_is); (case k => k_is))
    (case hk_run_end => k_is)
    (case ha_remark_end => k_is)
    (case hf_remark_end => refine' KR.fe_remark_end ?l ?c ?k; (case l => k_is); (case c => k_is); (case k => k_is))
    (case hk_remark_end => k_is)
    (case ha_worth_of => k_is)
    (case hf_worth_of => refine' KR.fe_worth_of ?l ?c ?k; (case l => k_is); (case c => k_is); (case k => k_is))
    (case hk_worth_of => k_is)
    (case ha_number_at => k_is)
    (case hf_number_at => refine' KR.fe_number_at ?l ?c ?k; (case l => k_is); (case c => k_is); (case k => k_is))
    (case hk_number_at => k_is)
    (case ha_token_at => k_is)
    (case hf_token_at => refine' KR.fe_token_at ?l ?c ?k; (case l => k_is); (case c => k_is); (case k => k_is))
    (case hk_token_at => k_is)
    (case ha_tokens_of => k_is)
    (case hf_tokens_of => refine' KR.fe_tokens_of ?l ?c ?k; (case l => k_is); (case c => k_is); (case k => k_is))
    (case hk_tokens_of => k_is)
    (case ha_Table_init => k_is)
    (case hf_Table_init => refine' KR.fe_Table_init ?l ?c ?k; (case l => k_is); (case c => k_is); (case k => k_is))
    (case ha_Reader_init => k_is)
    (case hf_Reader_init => refine' KR.fe_Reader_init ?l ?c ?k; (case l => k_is); (case c => k_is); (case k => k_is))
    (case ha_Reader_comes => k_is)
    (case hf_Reader_comes => refine' KR.fe_Reader_comes ?l ?c ?k; (case l => k_is); (case c => k_is); (case k => k_is))
    (case hm_Reader_comes => exact ⟨by k_is, by k_is, by k_is⟩)
    (case ha_Reader_want => k_is)
    (case hf_Reader_want => refine' KR.fe_Reader_want ?l ?c ?k; (case l => k_is); (case c => k_is); (case k => k_is))
    (case hm_Reader_want => exact ⟨by k_is, by k_is, by k_is⟩)
    (case ha_Reader_take => k_is)
    (case hf_Reader_take => refine' KR.fe_Reader_take ?l ?c ?k; (case l => k_is); (case c => k_is); (case k => k_is))
    (case hm_Reader_take => exact ⟨by k_is, by k_is, by k_is⟩)
    (case ha_Reader_read => k_is)
    (case hf_Reader_read => refine' KR.fe_Reader_read ?l ?c ?k; (case l => k_is); (case c => k_is); (case k => k_is))
    (case hm_Reader_read => exact ⟨by k_is, by k_is, by k_is⟩)
    (case ha_Reader_next_name => k_is)
    (case hf_Reader_next_name => refine' KR.fe_Reader_next_name ?l ?c ?k; (case l => k_is); (case c => k_is); (case k => k_is))
    (case hm_Reader_next_name => exact ⟨by k_is, by k_is, by k_is⟩)
    (case ha_Reader_read_number => k_is)
    (case hf_Reader_read_number => refine' KR.fe_Reader_read_number ?l ?c ?k; (case l => k_is); (case c => k_is); (case k => k_is))
    (case hm_Reader_read_number => exact ⟨by k_is, by k_is, by k_is⟩)
    (case ha_Reader_begin => k_is)
    (case hf_Reader_begin => refine' KR.fe_Reader_begin ?l ?c ?k; (case l => k_is); (case c => k_is); (case k => k_is))
    (case hm_Reader_begin => exact ⟨by k_is, by k_is, by k_is⟩)
    (case ha_Reader_column => k_is)
    (case hf_Reader_column => refine' KR.fe_Reader_column ?l ?c ?k; (case l => k_is); (case c => k_is); (case k => k_is))
    (case hm_Reader_column => exact ⟨by k_is, by k_is, by k_is⟩)
    (case ha_Reader_all_columns => k_is)
    (case hf_Reader_all_columns => refine' KR.fe_Reader_all_columns ?l ?c ?k; (case l => k_is); (case c => k_is); (case k => k_is))
    (case hm_Reader_all_columns => exact ⟨by k_is, by k_is, by k_is⟩)
    (case ha_Reader_summed => k_is)
    (case hf_Reader_summed => refine' KR.fe_Reader_summed ?l ?c ?k; (case l => k_is); (case c => k_is); (case k => k_is))
    (case hm_Reader_summed => exact ⟨by k_is, by k_is, by k_is⟩)
    (case ha_Reader_row => k_is)
    (case hf_Reader_row => refine' KR.fe_Reader_row ?l ?c ?k; (case l => k_is); (case c => k_is); (case k => k_is))
    (case hm_Reader_row => exact ⟨by k_is, by k_is, by k_is⟩)
    (case ha_Reader_asked_column => k_is)
    (case hf_Reader_asked_column => refine' KR.fe_Reader_asked_column ?l ?c ?k; (case l => k_is); (case c => k_is); (case k => k_is))
    (case hm_Reader_asked_column => exact ⟨by k_is, by k_is, by k_is⟩)
    (case ha_Reader_asked_columns => k_is)
    (case hf_Reader_asked_columns => refine' KR.fe_Reader_asked_columns ?l ?c ?k; (case l => k_is); (case c => k_is); (case k => k_is))
    (case hm_Reader_asked_columns => exact ⟨by k_is, by k_is, by k_is⟩)
    (case ha_Reader_question => k_is)
    (case hf_Reader_question => refine' KR.fe_Reader_question ?l ?c ?k; (case l => k_is); (case c => k_is); (case k => k_is))
    (case hm_Reader_question => exact ⟨by k_is, by k_is, by k_is⟩)
    (case ha_Reader_whole => k_is)
    (case hf_Reader_whole => refine' KR.fe_Reader_whole ?l ?c ?k; (case l => k_is); (case c => k_is); (case k => k_is))
    (case hm_Reader_whole => exact ⟨by k_is, by k_is, by k_is⟩)
    (case ha_read_table => k_is)
    (case hf_read_table => refine' KR.fe_read_table ?l ?c ?k; (case l => k_is); (case c => k_is); (case k => k_is))
    (case hk_read_table => k_is)
    (case ha_Refused_init => k_is)
    (case hf_Refused_init => refine' KR.fe_Refused_init ?l ?c ?k; (case l => k_is); (case c => k_is); (case k => k_is))
    (case ha_want => k_is)
    (case hf_want => refine' KR.fe_want ?l ?c ?k; (case l => k_is); (case c => k_is); (case k => k_is))
    (case hk_want => k_is)
    (case ha_Desk_init => k_is)
    (case hf_Desk_init => refine' KR.fe_Desk_init ?l ?c ?k; (case l => k_is); (case c => k_is); (case k => k_is))
    (case ha_Desk_load => k_is)
    (case hf_Desk_load => refine' KR.fe_Desk_load ?l ?c ?k; (case l => k_is); (case c => k_is); (case k => k_is))
    (case hm_Desk_load => exact ⟨by k_is, by k_is, by k_is⟩)
    (case ha_Desk_want_groupings => k_is)
    (case hf_Desk_want_groupings => refine' KR.fe_Desk_want_groupings ?l ?c ?k; (case l => k_is); (case c => k_is); (case k => k_is))
    (case hm_Desk_want_groupings => exact ⟨by k_is, by k_is, by k_is⟩)
    (case ha_Desk_counts => k_is)
    (case hf_Desk_counts => refine' KR.fe_Desk_counts ?l ?c ?k; (case l => k_is); (case c => k_is); (case k => k_is))
    (case hm_Desk_counts => exact ⟨by k_is, by k_is, by k_is⟩)
    (case ha_Desk_keep => k_is)
    (case hf_Desk_keep => refine' KR.fe_Desk_keep ?l ?c ?k; (case l => k_is); (case c => k_is); (case k => k_is))
    (case hm_Desk_keep => exact ⟨by k_is, by k_is, by k_is⟩)
    (case ha_Desk_put => k_is)
    (case hf_Desk_put => refine' KR.fe_Desk_put ?l ?c ?k; (case l => k_is); (case c => k_is); (case k => k_is))
    (case hm_Desk_put => exact ⟨by k_is, by k_is, by k_is⟩)
    (case ha_Desk_take => k_is)
    (case hf_Desk_take => refine' KR.fe_Desk_take ?l ?c ?k; (case l => k_is); (case c => k_is); (case k => k_is))
    (case hm_Desk_take => exact ⟨by k_is, by k_is, by k_is⟩)
    (case ha_Desk_refresh => k_is)
    (case hf_Desk_refresh => refine' KR.fe_Desk_refresh ?l ?c ?k; (case l => k_is); (case c => k_is); (case k => k_is))
    (case hm_Desk_refresh => exact ⟨by k_is, by k_is, by k_is⟩)
    (case ha_Desk_ages => k_is)
    (case hf_Desk_ages => refine' KR.fe_Desk_ages ?l ?c ?k; (case l => k_is); (case c => k_is); (case k => k_is))
    (case hm_Desk_ages => exact ⟨by k_is, by k_is, by k_is⟩)
    (case ha_Desk_read => k_is)
    (case hf_Desk_read => refine' KR.fe_Desk_read ?l ?c ?k; (case l => k_is); (case c => k_is); (case k => k_is))
    (case hm_Desk_read => exact ⟨by k_is, by k_is, by k_is⟩)
    (case ha_Desk_together => k_is)
    (case hf_Desk_together => refine' KR.fe_Desk_together ?l ?c ?k; (case l => k_is); (case c => k_is); (case k => k_is))
    (case hm_Desk_together => exact ⟨by k_is, by k_is, by k_is⟩)
    (case ha_Desk_was => k_is)
    (case hf_Desk_was => refine' KR.fe_Desk_was ?l ?c ?k; (case l => k_is); (case c => k_is); (case k => k_is))
    (case hm_Desk_was => exact ⟨by k_is, by k_is, by k_is⟩)
    (case ha_Desk_asked => k_is)
    (case hf_Desk_asked => refine' KR.fe_Desk_asked ?l ?c ?k; (case l => k_is); (case c => k_is); (case k => k_is))
    (case hm_Desk_asked => exact ⟨by k_is, by k_is, by k_is⟩)
    (case ha_Desk_answer => k_is)
    (case hf_Desk_answer => refine' KR.fe_Desk_answer ?l ?c ?k; (case l => k_is); (case c => k_is); (case k => k_is))
    (case hm_Desk_answer => exact ⟨by k_is, by k_is, by k_is⟩)
    (case ha_rows_at => k_is)
    (case hf_rows_at => refine' KR.fe_rows_at ?l ?c ?k; (case l => k_is); (case c => k_is); (case k => k_is))
    (case hk_rows_at => k_is)
    (case ha_answers => k_is)
    (case la => k_is)
    (case ca => k_is)
    (case ka => k_is)
    (case hk_answers => k_is)
    (case hl_Kept => exact ⟨by k_is, by k_is, by k_is, by k_is⟩)
    (case hq_Kept => exact ⟨by k_is, by k_is, by k_is, by k_is⟩)
    (case hz_Kept_lines_kept => k_is)
    (case hz_Kept_made => k_is)
    (case hl_Store => exact ⟨by k_is, by k_is, by k_is, by k_is⟩)
    (case hq_Store => exact ⟨by k_is, by k_is, by k_is, by k_is⟩)
    (case hz_Store_many => k_is)
    (case hz_Store_history => k_is)
    (case hz_Store_changes => k_is)
    (case hz_Store_kept => k_is)
    (case hL_Fault => k_is)
    (case hS_Fault => k_is)
    (case hE_Fault => k_is)
    (case hT_Fault => k_is)
    (case hK_Fault => k_is)
    (case ht_Fault => k_is)
    (case hy_Fault => exact ⟨by k_is, by k_is, by k_is, by k_is⟩)
    (case he_Fault => exact KR.exm_self (by k_is) (by k_is) (by k_is) (by first | rfl | k_is))
    (case hz_Fault_code => k_is)
    (case hz_Fault_place => k_is)
    (case hl_Table => exact ⟨by k_is, by k_is, by k_is, by k_is⟩)
    (case hq_Table => exact ⟨by k_is, by k_is, by k_is, by k_is⟩)
    (case hz_Table_columns => k_is)
    (case hz_Table_rows => k_is)
    (case hz_Table_questions => k_is)
    (case hl_Reader => exact ⟨by k_is, by k_is, by k_is, by k_is⟩)
    (case hq_Reader => exact ⟨by k_is, by k_is, by k_is, by k_is⟩)
    (case hz_Reader_tokens => k_is)
    (case hz_Reader_at => k_is)
    (case hz_Reader_table => k_is)
    (case hL_Refused => k_is)
    (case hS_Refused => k_is)
    (case hE_Refused => k_is)
    (case hT_Refused => k_is)
    (case hK_Refused => k_is)
    (case ht_Refused => k_is)
    (case hy_Refused => exact ⟨by k_is, by k_is, by k_is, by k_is⟩)
    (case he_Refused => exact KR.exm_self (by k_is) (by k_is) (by k_is) (by first | rfl | k_is))
    (case hz_Refused_number => k_is)
    (case hl_Desk => exact ⟨by k_is, by k_is, by k_is, by k_is⟩)
    (case hq_Desk => exact ⟨by k_is, by k_is, by k_is, by k_is⟩)
    (case hz_Desk_store => k_is)
  case S =>
    intro K H xs a hO hwi hask hx
    exact KR.request K H xs a hwi hask hx
end
