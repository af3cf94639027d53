import PyProof.Rows.All
import Wide.All
import OpenK.AllK
import Wide.FinOn
import KE.KStateDown
import HandS.ForMost
import HandS.ForExc
import HandS.Flow
import HandS.Style
import HandS.Deep
import HandS.DictComp
import HandS.ClsMeth
import HandS.IsInst
import HandS.OwnEq
import HandS.Wide
import HandS.ExcInit
import HandS.ExcField
import HandS.Lambda
import HandS.Defaults
import HandS.Evl
import HandS.HeadHook4
import HandS.HeadWalk
import HandS.Head0
import HandS.Head1
import HandS.Head2
import PyProof.InstNe
import KE.GoesMore
import HandS.TupAny
import PySem.Challenge.RW_forestrows_k13_whole_deeds_undone
section
set_option autoImplicit false
set_option linter.all false
namespace FM
structure Row (N : Type) where
  n : N
  v : Int
  l : Int
deriving DecidableEq
section
variable {N : Type} [DecidableEq N]
abbrev Rows (N : Type) := List (Row N)
def names (rs : Rows N) : List N := rs.map (·.n)
/-- each level is from 0 to the one ahead, plus 1 -/
def Steps : Int → Rows N → Prop
  | _, [] => True
  | a, r :: rs => 0 ≤ r.l ∧ r.l ≤ a + 1 ∧ Steps r.l rs
def lastL : Int → Rows N → Int
  | a, [] => a
  | _, r :: rs => lastL r.l rs
theorem steps_app : ∀ (xs ys : Rows N) (a : Int), Steps a (xs ++ ys) ↔ Steps a xs ∧ Steps (lastL a xs) ys
  | [], ys, a => by simp [Steps, lastL]
  | x :: xs, ys, a => by simp [Steps, lastL, steps_app xs ys x.l, and_assoc]
theorem steps_mono : ∀ {xs : Rows N} {a b : Int}, a ≤ b → Steps a xs → Steps b xs
  | [], _, _, _, _ => trivial
  | x :: xs, a, b, h, ⟨h0, h1, h2⟩ => ⟨h0, by omega, h2⟩
theorem lastL_app : ∀ (xs ys : Rows N) (a : Int), lastL a (xs ++ ys) = lastL (lastL a xs) ys
  | [], ys, a => rfl
  | x :: xs, ys, a => lastL_app xs ys x.l
theorem lastL_ge : ∀ {xs : Rows N} {a k : Int}, k ≤ a → (∀ r ∈ xs, k ≤ r.l) → k ≤ lastL a xs
  | [], _, _, h, _ => h
  | x :: xs, a, k, _, hx => lastL_ge (xs := xs) (hx x List.mem_cons_self) fun r hr => hx r (List.mem_cons_of_mem _ hr)
theorem steps_nonneg : ∀ {xs : Rows N} {a : Int}, Steps a xs → ∀ r ∈ xs, 0 ≤ r.l
  | [], _, _, r, h => by cases h
  | x :: xs, a, ⟨h0, _, h2⟩, r, h => by
    rcases List.mem_cons.mp h with e | h
    · rw [e]; exact h0
    · exact steps_nonneg h2 r h
/-- a tree: its root at level k, the rest below -/
structure Ch (k : Int) (c : Rows N) : Prop where
  ex : ∃ h t, c = h :: t ∧ h.l = k ∧ (∀ r ∈ t, k < r.l) ∧ Steps k t
theorem ch_ge {k : Int} {c : Rows N} (h : Ch k c) : ∀ r ∈ c, k ≤ r.l := by
  obtain ⟨x, t, rfl, hx, ht, _⟩ := h.ex
  intro r hr
  rcases List.mem_cons.mp hr with e | hr
  · rw [e]; omega
  · have := ht r hr; omega
theorem ch_steps {k a : Int} {c : Rows N} (h : Ch k c) (h0 : 0 ≤ k) (ha : k - 1 ≤ a) : Steps a c ∧ k ≤ lastL a c := by
  obtain ⟨x, t, rfl, hx, ht, hs⟩ := h.ex
  refine ⟨⟨by omega, by omega, by rw [hx]; exact hs⟩, ?_⟩
  show k ≤ lastL x.l t
  exact lastL_ge (by omega) fun r hr => by have := ht r hr; omega
theorem chs_steps {k : Int} : ∀ {cs : List (Rows N)} {a : Int}, (∀ c ∈ cs, Ch k c) → 0 ≤ k → k - 1 ≤ a → Steps a cs.flatten ∧ k - 1 ≤ lastL a cs.flatten
  | [], a, _, _, ha => ⟨trivial, ha⟩
  | c :: cs, a, h, h0, ha => by
    obtain ⟨s1, l1⟩ := ch_steps (h c List.mem_cons_self) h0 ha
    obtain ⟨s2, l2⟩ := chs_steps (cs := cs) (a := lastL a c) (fun d hd => h d (List.mem_cons_of_mem _ hd)) h0 (by omega)
    rw [List.flatten_cons, steps_app, lastL_app]
    exact ⟨⟨s1, s2⟩, l2⟩
theorem chs_ge {k : Int} {cs : List (Rows N)} (h : ∀ c ∈ cs, Ch k c) : ∀ r ∈ cs.flatten, k ≤ r.l := by
  intro r hr
  obtain ⟨c, hc, hr⟩ := List.mem_flatten.mp hr
  exact ch_ge (h c hc) r hr
/-- a list of rows from level k on falls into trees -/
theorem chunks_ex {k : Int} : ∀ (m : Nat) (L : Rows N), L.length ≤ m → (∀ r ∈ L, k ≤ r.l) → Steps (k - 1) L → ∃ cs : List (Rows N), L = cs.flatten ∧ ∀ c ∈ cs, Ch k c
  | _, [], _, _, _ => ⟨[], rfl, fun c hc => by cases hc⟩
  | 0, x :: L, h, _, _ => by simp at h
  | m + 1, x :: L, h, hk, ⟨h0, h1, h2⟩ => by
    have hx : x.l = k := by have := hk x List.mem_cons_self; omega
    have e : L = L.takeWhile (fun r => decide (k < r.l)) ++ L.dropWhile (fun r => decide (k < r.l)) := (List.takeWhile_append_dropWhile).symm
    have hT : ∀ r ∈ L.takeWhile (fun r => decide (k < r.l)), k < r.l := fun r hr => by
      have := List.all_takeWhile (p := fun r : Row N => decide (k < r.l)) (l := L)
      have := List.all_eq_true.mp this r hr
      simpa using this
    have hD : ∀ r ∈ L.dropWhile (fun r => decide (k < r.l)), k ≤ r.l := fun r hr => hk r (List.mem_cons_of_mem _ ((List.dropWhile_sublist _).mem hr))
    rw [e, steps_app] at h2
    have hs : Steps (k - 1) (L.dropWhile (fun r => decide (k < r.l))) := by
      cases hd : L.dropWhile (fun r => decide (k < r.l)) with
      | nil => trivial
      | cons y ys =>
        have hy : ¬ k < y.l := by
          have := List.head_dropWhile_not (p := fun r : Row N => decide (k < r.l)) (l := L) (by rw [hd]; simp)
          simp [hd] at this
          omega
        have h3 := h2.2
        rw [hd] at h3
        exact ⟨h3.1, by omega, h3.2.2⟩
    obtain ⟨cs, e2, hc⟩ := chunks_ex m (L.dropWhile (fun r => decide (k < r.l))) (by
      have := (List.dropWhile_sublist (l := L) (fun r => decide (k < r.l))).length_le
      simp at h
      omega) hD hs
    refine ⟨(x :: L.takeWhile (fun r => decide (k < r.l))) :: cs, ?_, fun c hcm => ?_⟩
    · rw [List.flatten_cons, ← e2, List.cons_append, ← e]
    · rcases List.mem_cons.mp hcm with e3 | hcm
      · rw [e3]
        exact ⟨_, _, rfl, hx, hT, hx ▸ h2.1⟩
      · exact hc c hcm
end
end FM
end
section
set_option autoImplicit false
set_option linter.all false
namespace FM
section
variable {N : Type} [DecidableEq N]
/-! ## what the program asks of rows -/
/-- place of a name -/
def pl (rs : Rows N) (n : N) : Nat := (names rs).idxOf n
def lv (rs : Rows N) (n : N) : Int := match rs[pl rs n]? with
  | some r => r.l
  | none => 0
def vl (rs : Rows N) (n : N) : Int := match rs[pl rs n]? with
  | some r => r.v
  | none => 0
/-- the ancestors, from the nearest on, of what stands at level l behind rows, these in backward order -/
def ancR : List (Row N) → Int → List N
  | [], _ => []
  | r :: rs, l => if r.l < l then r.n :: ancR rs r.l else ancR rs l
def anc (rs : Rows N) (n : N) : List N := ancR (rs.take (pl rs n)).reverse (lv rs n)
def par (rs : Rows N) (n : N) : Option N := (anc rs n).head?
/-- the rows below a name -/
def bel (rs : Rows N) (n : N) : Rows N := (rs.drop (pl rs n + 1)).takeWhile fun r => decide (lv rs n < r.l)
def kidsOf (rs : Rows N) : Option N → List N
  | none => names (rs.filter fun r => decide (r.l = 0))
  | some p => names ((bel rs p).filter fun r => decide (r.l = lv rs p + 1))
def rank (rs : Rows N) (n : N) : Nat := (kidsOf rs (par rs n)).idxOf n
def sizeN (rs : Rows N) (n : N) : Nat := 1 + (bel rs n).length
def lift (d : Int) (rs : Rows N) : Rows N := rs.map fun r => { r with l := r.l + d }
def sub (rs : Rows N) (n : N) : Rows N := lift (-(lv rs n)) ((rs.drop (pl rs n)).take (sizeN rs n))
def trees (rs : Rows N) (p : Option N) : List (Rows N) := (kidsOf rs p).map (sub rs)
def withTrees (rs : Rows N) (p : Option N) (ts : List (Rows N)) : Rows N := match p with
  | none => ts.flatten
  | some n => rs.take (pl rs n + 1) ++ (ts.map (lift (lv rs n + 1))).flatten ++ rs.drop (pl rs n + sizeN rs n)
def without (rs : Rows N) (n : N) : Rows N := rs.take (pl rs n) ++ rs.drop (pl rs n + sizeN rs n)
def putUnder (rs : Rows N) (p : Option N) (r : Nat) (t : Rows N) : Rows N := withTrees rs p ((trees rs p).take r ++ [t] ++ (trees rs p).drop r)
def lifted (rs : Rows N) (n : N) : Rows N := rs.take (pl rs n) ++ lift (-1) ((rs.take (pl rs n + sizeN rs n)).drop (pl rs n + 1)) ++ rs.drop (pl rs n + sizeN rs n)
def wrapped (rs : Rows N) (n : N) (v : Int) (p : Option N) (f l : Nat) : Rows N :=
  withTrees rs p ((trees rs p).take f ++ [⟨n, v, 0⟩ :: (((trees rs p).take l).drop f).flatten.map fun r => { r with l := r.l + 1 }] ++ (trees rs p).drop l)
def setV (rs : Rows N) (n : N) (v : Int) : Rows N := rs.map fun r => { r with v := if r.n = n then v else r.v }
/-! ## at a decomposition -/
theorem idx_at {A R : Rows N} {X : Row N} (h : X.n ∉ names A) : pl (A ++ X :: R) X.n = A.length := by
  unfold pl names
  have h' : X.n ∉ List.map (fun x => x.n) A := h
  rw [List.map_append, List.idxOf_append, if_neg h', List.map_cons, List.idxOf_cons_self, List.length_map]
  omega
theorem get_at {A R : Rows N} {X : Row N} : (A ++ X :: R)[A.length]? = some X := by simp
theorem lv_at {A R : Rows N} {X : Row N} (h : X.n ∉ names A) : lv (A ++ X :: R) X.n = X.l := by
  unfold lv
  rw [idx_at h, get_at]
theorem vl_at {A R : Rows N} {X : Row N} (h : X.n ∉ names A) : vl (A ++ X :: R) X.n = X.v := by
  unfold vl
  rw [idx_at h, get_at]
theorem anc_at {A R : Rows N} {X : Row N} (h : X.n ∉ names A) : anc (A ++ X :: R) X.n = ancR A.reverse X.l := by
  unfold anc
  rw [idx_at h, lv_at h, List.take_left]
theorem bel_at {A R : Rows N} {X : Row N} (h : X.n ∉ names A) : bel (A ++ X :: R) X.n = R.takeWhile fun r => decide (X.l < r.l) := by
  unfold bel
  rw [idx_at h, lv_at h]
  congr 1
  rw [show A ++ X :: R = (A ++ [X]) ++ R by simp, show A.length + 1 = (A ++ [X]).length by simp, List.drop_left]
theorem tw_app {p : Row N → Bool} : ∀ {B C : Rows N}, (∀ r ∈ B, p r = true) → (∀ r, C.head? = some r → p r = false) → (B ++ C).takeWhile p = B
  | [], [], _, _ => rfl
  | [], c :: C, _, h => by
    have := h c rfl
    simp [List.takeWhile_cons, this]
  | b :: B, C, hb, hc => by
    have := hb b List.mem_cons_self
    rw [List.cons_append, List.takeWhile_cons, if_pos this, tw_app (fun r hr => hb r (List.mem_cons_of_mem _ hr)) hc]
/-- A, X, B below it, C behind -/
structure At (rs : Rows N) (A : Rows N) (X : Row N) (B C : Rows N) : Prop where
  eq : rs = A ++ X :: (B ++ C)
  no : X.n ∉ names A
  be : ∀ r ∈ B, X.l < r.l
  ce : ∀ r, C.head? = some r → r.l ≤ X.l
section
variable {rs A B C : Rows N} {X : Row N} (h : At rs A X B C)
include h
theorem At.pl : pl rs X.n = A.length := by rw [h.eq]; exact idx_at h.no
theorem At.lv : lv rs X.n = X.l := by rw [h.eq]; exact lv_at h.no
theorem At.vl : vl rs X.n = X.v := by rw [h.eq]; exact vl_at h.no
theorem At.anc : anc rs X.n = ancR A.reverse X.l := by rw [h.eq]; exact anc_at h.no
theorem At.bel : bel rs X.n = B := by
  rw [h.eq, bel_at h.no]
  exact tw_app (fun r hr => decide_eq_true (h.be r hr)) fun r hr => decide_eq_false (by have := h.ce r hr; omega)
theorem At.size : sizeN rs X.n = 1 + B.length := by unfold sizeN; rw [h.bel]
theorem At.take : rs.take (FM.pl rs X.n) = A := by rw [h.pl, h.eq, List.take_left]
theorem At.take1 : rs.take (FM.pl rs X.n + 1) = A ++ [X] := by
  rw [h.pl, h.eq, show A ++ X :: (B ++ C) = (A ++ [X]) ++ (B ++ C) by simp, show A.length + 1 = (A ++ [X]).length by simp, List.take_left]
theorem At.dropN : rs.drop (FM.pl rs X.n) = X :: (B ++ C) := by rw [h.pl, h.eq, List.drop_left]
theorem At.dropE : rs.drop (FM.pl rs X.n + sizeN rs X.n) = C := by
  rw [h.pl, h.size, h.eq, show A ++ X :: (B ++ C) = (A ++ X :: B) ++ C by simp, show A.length + (1 + B.length) = (A ++ X :: B).length by simp; omega, List.drop_left]
theorem At.sub : sub rs X.n = lift (-X.l) (X :: B) := by
  unfold FM.sub
  rw [h.dropN, h.size, h.lv, show X :: (B ++ C) = (X :: B) ++ C by simp, show 1 + B.length = (X :: B).length by simp; omega, List.take_left]
theorem At.without : without rs X.n = A ++ C := by unfold FM.without; rw [h.take, h.dropE]
theorem At.lifted : lifted rs X.n = A ++ lift (-1) B ++ C := by
  unfold FM.lifted
  rw [h.take, h.dropE]
  congr 2
  rw [h.pl, h.size, h.eq, show A ++ X :: (B ++ C) = (A ++ X :: B) ++ C by simp, show A.length + (1 + B.length) = (A ++ X :: B).length by simp; omega, List.take_left,
    show A ++ X :: B = (A ++ [X]) ++ B by simp, show A.length + 1 = (A ++ [X]).length by simp, List.drop_left]
theorem At.withTrees (ts : List (Rows N)) : withTrees rs (some X.n) ts = A ++ [X] ++ (ts.map (lift (X.l + 1))).flatten ++ C := by
  show rs.take (FM.pl rs X.n + 1) ++ (ts.map (lift (FM.lv rs X.n + 1))).flatten ++ rs.drop (FM.pl rs X.n + sizeN rs X.n) = _
  rw [h.take1, h.lv, h.dropE]
theorem At.kids : kidsOf rs (some X.n) = names (B.filter fun r => decide (r.l = X.l + 1)) := by
  show names ((FM.bel rs X.n).filter fun r => decide (r.l = FM.lv rs X.n + 1)) = _
  rw [h.bel, h.lv]
end
theorem lift_lift (a b : Int) (rs : Rows N) : lift a (lift b rs) = lift (b + a) rs := by
  unfold lift
  rw [List.map_map]
  congr 1
  funext r
  simp only [Function.comp]
  congr 1
  omega
theorem lift_zero (rs : Rows N) : lift 0 rs = rs := by
  unfold lift
  conv => rhs; rw [← List.map_id rs]
  congr 1
  funext r
  cases r
  simp
theorem lift_names (d : Int) (rs : Rows N) : names (lift d rs) = names rs := by
  unfold lift names
  rw [List.map_map]
  rfl
theorem lift_app (d : Int) (xs ys : Rows N) : lift d (xs ++ ys) = lift d xs ++ lift d ys := by unfold lift; rw [List.map_append]
theorem lift_flatten (d : Int) (ts : List (Rows N)) : lift d ts.flatten = (ts.map (lift d)).flatten := by
  induction ts with
  | nil => rfl
  | cons t ts ih => rw [List.flatten_cons, lift_app, ih]; rfl
theorem lift_steps {d : Int} : ∀ {rs : Rows N} {a : Int}, Steps a rs → (∀ r ∈ rs, 0 ≤ r.l + d) → Steps (a + d) (lift d rs)
  | [], _, _, _ => trivial
  | r :: rs, a, ⟨h0, h1, h2⟩, hd => ⟨hd r List.mem_cons_self, by show r.l + d ≤ a + d + 1; omega, lift_steps h2 fun q hq => hd q (List.mem_cons_of_mem _ hq)⟩
theorem mem_lift {d : Int} {rs : Rows N} {r : Row N} (h : r ∈ lift d rs) : ∃ q ∈ rs, r = { q with l := q.l + d } := by
  obtain ⟨q, hq, e⟩ := List.mem_map.mp h
  exact ⟨q, hq, e.symm⟩
theorem ch_lift {k d : Int} {c : Rows N} (h : Ch k c) (h0 : 0 ≤ k + d) : Ch (k + d) (lift d c) := by
  obtain ⟨x, t, rfl, hx, ht, hs⟩ := h.ex
  refine ⟨{ x with l := x.l + d }, lift d t, rfl, by show x.l + d = k + d; omega, fun r hr => ?_, lift_steps hs fun r hr => by have := ht r hr; omega⟩
  obtain ⟨q, hq, rfl⟩ := mem_lift hr
  have := ht q hq
  show k + d < q.l + d
  omega
end
end FM
end
section
set_option autoImplicit false
set_option linter.all false
namespace FM
section
variable {N : Type} [DecidableEq N]
theorem names_app (xs ys : Rows N) : names (xs ++ ys) = names xs ++ names ys := List.map_append
theorem mem_names {rs : Rows N} {r : Row N} (h : r ∈ rs) : r.n ∈ names rs := List.mem_map.mpr ⟨r, h, rfl⟩
theorem of_names {rs : Rows N} {n : N} (h : n ∈ names rs) : ∃ r ∈ rs, r.n = n := List.mem_map.mp h
/-- behind the trees of level k -/
structure Post (k : Int) (post : Rows N) : Prop where
  hd : ∀ r, post.head? = some r → r.l < k
  st : Steps (k - 1) post
/-- the trees below one parent, in their place -/
structure Ctx (rs : Rows N) (p : Option N) (pre : Rows N) (k : Int) (cs : List (Rows N)) (post : Rows N) : Prop where
  eq : rs = pre ++ cs.flatten ++ post
  k0 : 0 ≤ k
  ps : Steps (-1) pre
  pl : lastL (-1) pre = k - 1
  par : match p with
    | none => pre = [] ∧ post = [] ∧ k = 0
    | some n => ∃ A X, pre = A ++ [X] ∧ X.n = n ∧ X.l = k - 1
  cs : ∀ c ∈ cs, Ch k c
  po : Post k post
theorem Ctx.steps {rs : Rows N} {p : Option N} {pre post : Rows N} {k : Int} {cs : List (Rows N)} (h : Ctx rs p pre k cs post) : Steps (-1) rs := by
  rw [h.eq, steps_app, steps_app, lastL_app, h.pl]
  obtain ⟨s1, l1⟩ := chs_steps (a := k - 1) h.cs h.k0 (Int.le_refl _)
  exact ⟨⟨h.ps, s1⟩, steps_mono l1 h.po.st⟩
/-- other trees in their place -/
theorem Ctx.swap {rs : Rows N} {p : Option N} {pre post : Rows N} {k : Int} {cs ds : List (Rows N)} (h : Ctx rs p pre k cs post) (hd : ∀ c ∈ ds, Ch k c) : Ctx (pre ++ ds.flatten ++ post) p pre k ds post :=
  ⟨rfl, h.k0, h.ps, h.pl, h.par, hd, h.po⟩
def headN (c : Rows N) : List N := match c with
  | [] => []
  | r :: _ => [r.n]
theorem filter_ch {k : Int} {c : Rows N} (h : Ch k c) : names (c.filter fun r => decide (r.l = k)) = headN c := by
  obtain ⟨x, t, rfl, hx, ht, _⟩ := h.ex
  have e : t.filter (fun r => decide (r.l = k)) = [] := List.filter_eq_nil_iff.mpr fun r hr => by
    have := ht r hr
    simp
    omega
  rw [List.filter_cons, if_pos (decide_eq_true hx), e]
  rfl
theorem filter_chs {k : Int} : ∀ {cs : List (Rows N)}, (∀ c ∈ cs, Ch k c) → names (cs.flatten.filter fun r => decide (r.l = k)) = cs.flatMap headN
  | [], _ => rfl
  | c :: cs, h => by
    rw [List.flatten_cons, List.filter_append, names_app, filter_ch (h c List.mem_cons_self), filter_chs fun d hd => h d (List.mem_cons_of_mem _ hd), List.flatMap_cons]
theorem heads_len {k : Int} : ∀ {cs : List (Rows N)}, (∀ c ∈ cs, Ch k c) → (cs.flatMap headN).length = cs.length
  | [], _ => rfl
  | c :: cs, h => by
    obtain ⟨x, t, e, _⟩ := (h c List.mem_cons_self).ex
    rw [List.flatMap_cons, List.length_append, heads_len fun d hd => h d (List.mem_cons_of_mem _ hd), e]
    simp [headN]
    omega
section
variable {rs pre post : Rows N} {p : Option N} {k : Int} {cs : List (Rows N)}
theorem Ctx.at_par {n : N} (h : Ctx rs (some n) pre k cs post) (nd : (names rs).Nodup) : ∃ A X, pre = A ++ [X] ∧ X.n = n ∧ X.l = k - 1 ∧ At rs A X cs.flatten post := by
  obtain ⟨A, X, e, e1, e2⟩ := h.par
  refine ⟨A, X, e, e1, e2, ⟨by rw [h.eq, e]; simp, ?_, fun r hr => by have := chs_ge h.cs r hr; omega, fun r hr => by have := h.po.hd r hr; omega⟩⟩
  intro hm
  rw [h.eq, e] at nd
  simp only [names_app, List.append_assoc] at nd
  have := (List.nodup_append.mp nd).2.2 _ hm X.n (by simp [names])
  exact this rfl
theorem Ctx.kids (h : Ctx rs p pre k cs post) (nd : (names rs).Nodup) : kidsOf rs p = cs.flatMap headN := by
  cases p with
  | none =>
    obtain ⟨e1, e2, e3⟩ := h.par
    have e : rs = cs.flatten := by rw [h.eq, e1, e2]; simp
    show names (rs.filter fun r => decide (r.l = 0)) = _
    rw [e, ← filter_chs h.cs, e3]
  | some n =>
    obtain ⟨A, X, _, e1, e2, a⟩ := h.at_par nd
    rw [← e1, a.kids, ← filter_chs h.cs, e2, show k - 1 + 1 = k by omega]
theorem Ctx.kidsLen (h : Ctx rs p pre k cs post) (nd : (names rs).Nodup) : (kidsOf rs p).length = cs.length := by rw [h.kids nd, heads_len h.cs]
/-- one of the trees, where it stands -/
theorem Ctx.at_c {cs1 cs2 : List (Rows N)} {x : Row N} {t : Rows N} (h : Ctx rs p pre k (cs1 ++ (x :: t) :: cs2) post) (nd : (names rs).Nodup) : At rs (pre ++ cs1.flatten) x t (cs2.flatten ++ post) ∧ x.l = k ∧ (∀ r ∈ t, k < r.l) ∧ Steps k t := by
  obtain ⟨y, u, e, hx, ht, hs⟩ := (h.cs (x :: t) (by simp)).ex
  cases e
  refine ⟨⟨by rw [h.eq]; simp, ?_, fun r hr => by have := ht r hr; omega, fun r hr => ?_⟩, hx, ht, hs⟩
  · intro hm
    rw [h.eq] at nd
    simp only [List.flatten_append, List.flatten_cons, names_app, List.append_assoc] at nd
    rw [← List.append_assoc] at nd
    rw [names_app] at hm
    have := (List.nodup_append.mp nd).2.2 _ hm x.n (by simp [names])
    exact this rfl
  · cases cs2 with
    | nil => have := h.po.hd r hr; omega
    | cons c cs2 =>
      obtain ⟨y, u, e, hy, _⟩ := (h.cs c (by simp)).ex
      rw [e] at hr
      cases hr
      omega
theorem head_eq : ∀ {cs : List (Rows N)} (h : ∀ c ∈ cs, Ch k c), cs.map (fun c => (names c).head?) = (cs.flatMap headN).map some
  | [], _ => rfl
  | c :: cs, h => by
    obtain ⟨x, t, e, _⟩ := (h c List.mem_cons_self).ex
    rw [List.map_cons, List.flatMap_cons, List.map_append, head_eq fun d hd => h d (List.mem_cons_of_mem _ hd), e]
    rfl
/-- the trees as the program takes them out -/
theorem Ctx.subs (h : Ctx rs p pre k cs post) (nd : (names rs).Nodup) : ∀ cs1 cs2, cs = cs1 ++ cs2 → (cs2.flatMap headN).map (sub rs) = cs2.map (lift (-k))
  | cs1, [], _ => rfl
  | cs1, c :: cs2, e => by
    obtain ⟨x, t, ec, hx, ht, hs⟩ := (h.cs c (by rw [e]; simp)).ex
    have ih := h.subs nd (cs1 ++ [c]) cs2 (by rw [e]; simp)
    subst ec
    rw [e] at h
    obtain ⟨a, _⟩ := h.at_c nd
    rw [List.flatMap_cons, List.map_append, ih]
    show [sub rs x.n] ++ _ = _
    rw [a.sub, hx]
    rfl
theorem Ctx.trees (h : Ctx rs p pre k cs post) (nd : (names rs).Nodup) : trees rs p = cs.map (lift (-k)) := by
  unfold FM.trees
  rw [h.kids nd]
  exact h.subs nd [] cs rfl
theorem lift_back {ds : List (Rows N)} : (ds.map (lift (-k))).map (lift k) = ds := by
  rw [List.map_map]
  conv => rhs; rw [← List.map_id ds]
  congr 1
  funext c
  show lift k (lift (-k) c) = c
  rw [lift_lift, show -k + k = 0 by omega, lift_zero]
/-- trees laid below the parent -/
theorem Ctx.withT (h : Ctx rs p pre k cs post) (nd : (names rs).Nodup) (ts : List (Rows N)) : withTrees rs p ts = pre ++ (ts.map (lift k)).flatten ++ post := by
  cases p with
  | none =>
    obtain ⟨e1, e2, e3⟩ := h.par
    rw [e1, e2, e3]
    show ts.flatten = _
    have : ts.map (lift (0 : Int)) = ts := by
      conv => rhs; rw [← List.map_id ts]
      congr 1
      funext c
      exact lift_zero c
    rw [this]
    simp
  | some n =>
    obtain ⟨A, X, e, e1, e2, a⟩ := h.at_par nd
    rw [← e1, a.withTrees, e, e2, show k - 1 + 1 = k by omega]
/-- a tree put below the parent -/
theorem Ctx.put (h : Ctx rs p pre k cs post) (nd : (names rs).Nodup) (r : Nat) (t : Rows N) : putUnder rs p r t = pre ++ (cs.take r ++ [lift k t] ++ cs.drop r).flatten ++ post := by
  unfold putUnder
  rw [h.withT nd, h.trees nd]
  congr 2
  congr 1
  rw [List.map_append, List.map_append, ← List.map_take, ← List.map_drop, lift_back, lift_back]
  rfl
theorem Ctx.wrap (h : Ctx rs p pre k cs post) (nd : (names rs).Nodup) (n : N) (v : Int) (f l : Nat) :
    wrapped rs n v p f l = pre ++ (cs.take f ++ [⟨n, v, k⟩ :: lift 1 ((cs.take l).drop f).flatten] ++ cs.drop l).flatten ++ post := by
  unfold wrapped
  rw [h.withT nd, h.trees nd]
  congr 2
  congr 1
  rw [List.map_append, List.map_append, ← List.map_take, ← List.map_drop, ← List.map_take, ← List.map_drop, lift_back, lift_back]
  congr 2
  show [lift k (⟨n, v, 0⟩ :: lift 1 (((cs.take l).drop f).map (lift (-k))).flatten)] = _
  rw [← lift_flatten]
  show [⟨n, v, 0 + k⟩ :: lift k (lift 1 (lift (-k) ((cs.take l).drop f).flatten))] = _
  rw [lift_lift, lift_lift, show (0 : Int) + k = k by omega, show -k + (1 + k) = 1 by omega]
theorem Ctx.revd (h : Ctx rs p pre k cs post) (nd : (names rs).Nodup) : withTrees rs p (FM.trees rs p).reverse = pre ++ cs.reverse.flatten ++ post := by
  rw [h.withT nd, h.trees nd, ← List.map_reverse, lift_back]
/-- a tree taken out -/
theorem Ctx.out {cs1 cs2 : List (Rows N)} {x : Row N} {t : Rows N} (h : Ctx rs p pre k (cs1 ++ (x :: t) :: cs2) post) (nd : (names rs).Nodup) : without rs x.n = pre ++ (cs1 ++ cs2).flatten ++ post := by
  rw [(h.at_c nd).1.without]
  simp
theorem Ctx.sub {cs1 cs2 : List (Rows N)} {x : Row N} {t : Rows N} (h : Ctx rs p pre k (cs1 ++ (x :: t) :: cs2) post) (nd : (names rs).Nodup) : sub rs x.n = lift (-k) (x :: t) := by
  rw [(h.at_c nd).1.sub, (h.at_c nd).2.1]
theorem Ctx.lifted {cs1 cs2 : List (Rows N)} {x : Row N} {t : Rows N} (h : Ctx rs p pre k (cs1 ++ (x :: t) :: cs2) post) (nd : (names rs).Nodup) : lifted rs x.n = pre ++ cs1.flatten ++ lift (-1) t ++ cs2.flatten ++ post := by
  rw [(h.at_c nd).1.lifted]
  simp
end
end
end FM
end
section
set_option autoImplicit false
set_option linter.all false
namespace FM
section
variable {N : Type} [DecidableEq N]
theorem dw_head {p : Row N → Bool} : ∀ {L : Rows N} {r : Row N}, (L.dropWhile p).head? = some r → p r = false
  | [], r, h => by cases h
  | x :: L, r, h => by
    rw [List.dropWhile_cons] at h
    by_cases hx : p x = true
    · rw [if_pos hx] at h
      exact dw_head h
    · rw [if_neg hx] at h
      cases h
      simpa using hx
theorem tw_all {p : Row N → Bool} {L : Rows N} : ∀ r ∈ L.takeWhile p, p r = true := fun r hr => List.all_eq_true.mp List.all_takeWhile r hr
theorem steps_post {k : Int} {L : Rows N} {a : Int} (h : Steps a L) (hd : ∀ r, L.head? = some r → r.l < k) : Post k L := by
  refine ⟨hd, ?_⟩
  cases L with
  | nil => trivial
  | cons x L => exact ⟨h.1, by have := hd x rfl; omega, h.2.2⟩
theorem split_at {n : N} : ∀ {rs : Rows N}, n ∈ names rs → ∃ A X R, rs = A ++ X :: R ∧ X.n = n
  | [], h => by cases h
  | x :: rs, h => by
    by_cases e : x.n = n
    · exact ⟨[], x, rs, rfl, e⟩
    · obtain ⟨A, X, R, e1, e2⟩ := split_at (rs := rs) (n := n) (by
        rcases List.mem_cons.mp h with h | h
        · exact absurd h.symm e
        · exact h)
      exact ⟨x :: A, X, R, by rw [e1]; rfl, e2⟩
/-- the trees below a parent -/
theorem ctx_of {rs : Rows N} {p : Option N} (st : Steps (-1) rs) (hp : ∀ n, p = some n → n ∈ names rs) : ∃ pre k cs post, Ctx rs p pre k cs post := by
  cases p with
  | none =>
    obtain ⟨cs, e, h⟩ := chunks_ex (k := 0) rs.length rs (Nat.le_refl _) (steps_nonneg st) st
    exact ⟨[], 0, cs, [], by rw [e]; simp, by omega, trivial, rfl, ⟨rfl, rfl, rfl⟩, h, ⟨fun r h => (nomatch h), trivial⟩⟩
  | some n =>
    obtain ⟨A, X, R, e, e1⟩ := split_at (hp n rfl)
    subst e
    have e2 : A ++ X :: R = (A ++ [X]) ++ R := by simp
    have st' := st
    rw [e2, steps_app] at st
    have hl : lastL (-1) (A ++ [X]) = X.l := by rw [lastL_app]; rfl
    have hX : 0 ≤ X.l := steps_nonneg st' X (by simp)
    rw [hl] at st
    have eR : R = R.takeWhile (fun r => decide (X.l + 1 ≤ r.l)) ++ R.dropWhile (fun r => decide (X.l + 1 ≤ r.l)) := (List.takeWhile_append_dropWhile).symm
    have s2 := st.2
    rw [eR, steps_app] at s2
    obtain ⟨cs, e3, h⟩ := chunks_ex (k := X.l + 1) _ (R.takeWhile (fun r => decide (X.l + 1 ≤ r.l))) (Nat.le_refl _) (fun r hr => by simpa using tw_all r hr) (by rw [show X.l + 1 - 1 = X.l by omega]; exact s2.1)
    refine ⟨A ++ [X], X.l + 1, cs, R.dropWhile (fun r => decide (X.l + 1 ≤ r.l)), ?_, by omega, st.1, by rw [hl]; omega, ⟨A, X, rfl, e1, by omega⟩, h, steps_post s2.2 fun r hr => ?_⟩
    · rw [← e3, List.append_assoc, ← eR, e2]
    · have := dw_head hr
      simp at this
      omega
/-- what a list of rows from level k on leaves of the search for ancestors -/
theorem ancR_skip {k : Int} : ∀ {L M : Rows N}, (∀ r ∈ L, k ≤ r.l) → ancR (L ++ M) k = ancR M k
  | [], M, _ => rfl
  | x :: L, M, h => by
    have hx := h x List.mem_cons_self
    show (if x.l < k then _ else ancR (L ++ M) k) = _
    rw [if_neg (by omega), ancR_skip fun r hr => h r (List.mem_cons_of_mem _ hr)]
/-- the last row below k, and what stands behind it -/
theorem last_below (k : Int) : ∀ (A : Rows N), (∀ r ∈ A, k ≤ r.l) ∨ ∃ A1 Y A2, A = A1 ++ Y :: A2 ∧ Y.l < k ∧ ∀ r ∈ A2, k ≤ r.l
  | [] => .inl fun r h => by cases h
  | x :: A => by
    rcases last_below k A with h | ⟨A1, Y, A2, e, h1, h2⟩
    · by_cases hx : k ≤ x.l
      · exact .inl fun r hr => by
          rcases List.mem_cons.mp hr with e | hr
          · rw [e]; exact hx
          · exact h r hr
      · exact .inr ⟨[], x, A, rfl, by omega, h⟩
    · exact .inr ⟨x :: A1, Y, A2, by rw [e]; rfl, h1, h2⟩
/-- a node in its place among its parent's trees -/
structure Loc (rs : Rows N) (n : N) (pre : Rows N) (k : Int) (cs1 : List (Rows N)) (x : Row N) (t : Rows N) (cs2 : List (Rows N)) (post : Rows N) : Prop where
  ctx : Ctx rs (par rs n) pre k (cs1 ++ (x :: t) :: cs2) post
  nm : x.n = n
theorem loc_of {rs : Rows N} {n : N} (st : Steps (-1) rs) (nd : (names rs).Nodup) (hn : n ∈ names rs) : ∃ pre k cs1 x t cs2 post, Loc rs n pre k cs1 x t cs2 post := by
  obtain ⟨A, X, R, e, e1⟩ := split_at hn
  have hno : X.n ∉ names A := by
    intro hm
    rw [e, names_app] at nd
    exact (List.nodup_append.mp nd).2.2 _ hm X.n (by simp [names]) rfl
  have hX0 : 0 ≤ X.l := steps_nonneg st X (by rw [e]; simp)
  have hpar : par rs n = (ancR A.reverse X.l).head? := by unfold par; rw [← e1, e, anc_at hno]
  -- behind X: the rows from its level on, then the rest
  have st0 := st
  rw [e, steps_app] at st0
  have sX := st0.2
  have eR : X :: R = (X :: R).takeWhile (fun r => decide (X.l ≤ r.l)) ++ (X :: R).dropWhile (fun r => decide (X.l ≤ r.l)) := (List.takeWhile_append_dropWhile).symm
  have hT : ∀ r ∈ (X :: R).takeWhile (fun r => decide (X.l ≤ r.l)), X.l ≤ r.l := fun r hr => by simpa using tw_all r hr
  have hP : ∀ r, ((X :: R).dropWhile (fun r => decide (X.l ≤ r.l))).head? = some r → r.l < X.l := fun r hr => by
    have := dw_head hr
    simp at this
    omega
  have hTc : (X :: R).takeWhile (fun r => decide (X.l ≤ r.l)) = X :: R.takeWhile (fun r => decide (X.l ≤ r.l)) := by
    rw [List.takeWhile_cons, if_pos (by simp)]
  have sT : Steps (lastL (-1) A) ((X :: R).takeWhile (fun r => decide (X.l ≤ r.l))) ∧ Steps (lastL (lastL (-1) A) ((X :: R).takeWhile (fun r => decide (X.l ≤ r.l)))) ((X :: R).dropWhile (fun r => decide (X.l ≤ r.l))) := by
    have q := sX
    rw [eR, steps_app] at q
    exact q
  -- one way to finish: what stands ahead, from the level on, is A2
  have fin : ∀ (pre A2 : Rows N), A = pre ++ A2 → (∀ r ∈ A2, X.l ≤ r.l) → Steps (-1) pre → lastL (-1) pre = X.l - 1 → Steps (X.l - 1) A2 →
      (match par rs n with | none => pre = [] ∧ ((X :: R).dropWhile (fun r => decide (X.l ≤ r.l))) = [] ∧ X.l = 0 | some m => ∃ A0 Y, pre = A0 ++ [Y] ∧ Y.n = m ∧ Y.l = X.l - 1) →
      ∃ pre k cs1 x t cs2 post, Loc rs n pre k cs1 x t cs2 post := by
    intro pre A2 eA hA2 s1 l1 s2 hp
    obtain ⟨cs1, c1, h1⟩ := chunks_ex (k := X.l) _ A2 (Nat.le_refl _) hA2 s2
    obtain ⟨cs, c2, h2⟩ := chunks_ex (k := X.l) _ ((X :: R).takeWhile (fun r => decide (X.l ≤ r.l))) (Nat.le_refl _) hT (by
      rw [hTc] at sT ⊢
      exact ⟨sT.1.1, by omega, sT.1.2.2⟩)
    rw [hTc] at c2
    cases cs with
    | nil => cases c2
    | cons c cs2 =>
      obtain ⟨y, t, ec, hy, ht, hs⟩ := (h2 c (by simp)).ex
      subst ec
      rw [List.flatten_cons, List.cons_append] at c2
      injection c2 with c3 c4
      subst c3
      refine ⟨pre, X.l, cs1, X, t, cs2, (X :: R).dropWhile (fun r => decide (X.l ≤ r.l)), ⟨⟨?_, hX0, s1, l1, hp, fun c hc => ?_, steps_post sT.2 hP⟩, e1⟩⟩
      · have e5 : X :: R = X :: (t ++ cs2.flatten) ++ (X :: R).dropWhile (fun r => decide (X.l ≤ r.l)) := by
          rw [← c4, ← hTc]
          exact eR
        rw [e]
        conv => lhs; rw [e5]
        rw [eA, c1]
        simp
      · rcases List.mem_append.mp hc with hc | hc
        · exact h1 c hc
        · exact h2 c hc
  rcases last_below X.l A with h | ⟨A1, Y, A2, eA, hY, h2⟩
  · -- a root
    have hr : par rs n = none := by
      rw [hpar]
      have := ancR_skip (k := X.l) (L := A.reverse) (M := []) fun r hr => h r (List.mem_reverse.mp hr)
      rw [List.append_nil] at this
      rw [this]
      rfl
    have h0 : X.l = 0 := by
      cases A with
      | nil =>
        have := sX.2.1
        show X.l = 0
        simp [lastL] at this
        omega
      | cons a A =>
        have q := st0.1
        have := h a List.mem_cons_self
        have := q.2.1
        omega
    refine fin [] A rfl h trivial (by show (-1 : Int) = X.l - 1; omega) (by rw [h0]; exact st0.1) ?_
    rw [hr]
    refine ⟨rfl, ?_, h0⟩
    cases hd : (X :: R).dropWhile (fun r => decide (X.l ≤ r.l)) with
    | nil => rfl
    | cons y ys =>
      have h3 := hP y (by rw [hd]; rfl)
      have h4 : 0 ≤ y.l := steps_nonneg st y (by
        rw [e]
        refine List.mem_append_right _ ((List.dropWhile_sublist (fun r => decide (X.l ≤ r.l))).mem ?_)
        rw [hd]
        exact List.mem_cons_self)
      omega
  · have s3 := st0.1
    rw [eA, show A1 ++ Y :: A2 = (A1 ++ [Y]) ++ A2 by simp, steps_app] at s3
    have hl : lastL (-1) (A1 ++ [Y]) = Y.l := by rw [lastL_app]; rfl
    rw [hl] at s3
    have hYl : Y.l = X.l - 1 := by
      cases A2 with
      | nil =>
        have q := sX.2.1
        rw [eA, lastL_app] at q
        have q : X.l ≤ Y.l + 1 := q
        omega
      | cons a A2 =>
        have q := s3.2.2.1
        have := h2 a List.mem_cons_self
        omega
    have hm : par rs n = some Y.n := by
      rw [hpar, eA]
      rw [show (A1 ++ Y :: A2).reverse = A2.reverse ++ Y :: A1.reverse by simp, ancR_skip fun r hr => h2 r (List.mem_reverse.mp hr)]
      show (if Y.l < X.l then Y.n :: ancR A1.reverse Y.l else ancR A1.reverse X.l).head? = _
      rw [if_pos hY]
      rfl
    refine fin (A1 ++ [Y]) A2 (by rw [eA]; simp) h2 s3.1 (by rw [hl]; exact hYl) (by rw [← hYl]; exact s3.2) ?_
    rw [hm]
    exact ⟨A1, Y, rfl, rfl, hYl⟩
theorem idx_heads {k : Int} {cs1 cs2 : List (Rows N)} {x : Row N} {t : Rows N} (h : ∀ c ∈ cs1, Ch k c) (hno : x.n ∉ cs1.flatMap headN) : ((cs1 ++ (x :: t) :: cs2).flatMap headN).idxOf x.n = cs1.length := by
  rw [List.flatMap_append, List.idxOf_append, if_neg hno, heads_len h]
  show ([x.n] ++ cs2.flatMap headN).idxOf x.n + _ = _
  rw [List.singleton_append, List.idxOf_cons_self]
  omega
theorem heads_sub : ∀ {cs : List (Rows N)} {n : N}, n ∈ cs.flatMap headN → n ∈ names cs.flatten
  | [], n, h => by cases h
  | c :: cs, n, h => by
    rw [List.flatMap_cons] at h
    rw [List.flatten_cons, names_app]
    rcases List.mem_append.mp h with h | h
    · cases c with
      | nil => cases h
      | cons r c => exact List.mem_append_left _ (by rw [show n = r.n by simpa [headN] using h]; simp [names])
    · exact List.mem_append_right _ (heads_sub h)
section
variable {rs : Rows N} {n : N} {pre post : Rows N} {k : Int} {cs1 cs2 : List (Rows N)} {x : Row N} {t : Rows N} (L : Loc rs n pre k cs1 x t cs2 post) (nd : (names rs).Nodup)
include L nd
theorem Loc.at_ : At rs (pre ++ cs1.flatten) x t (cs2.flatten ++ post) := (L.ctx.at_c nd).1
theorem Loc.rank : rank rs n = cs1.length := by
  unfold FM.rank
  rw [L.ctx.kids nd, ← L.nm]
  refine idx_heads (fun c hc => L.ctx.cs c (List.mem_append_left _ hc)) fun hm => ?_
  have := (L.at_ nd).no
  rw [names_app] at this
  exact this (List.mem_append_right _ (heads_sub hm))
/-- taken out, and put back in its place -/
theorem Loc.back : putUnder (without rs n) (par rs n) (FM.rank rs n) (sub rs n) = rs := by
  have hc : ∀ c ∈ cs1 ++ cs2, Ch k c := fun c hc => L.ctx.cs c (by
    rcases List.mem_append.mp hc with hc | hc
    · exact List.mem_append_left _ hc
    · exact List.mem_append_right _ (List.mem_cons_of_mem _ hc))
  have e1 : without rs n = pre ++ (cs1 ++ cs2).flatten ++ post := by rw [← L.nm]; exact L.ctx.out nd
  have e2 : FM.sub rs n = lift (-k) (x :: t) := by rw [← L.nm]; exact L.ctx.sub nd
  have c2 := L.ctx.swap hc
  have nd2 : (names (pre ++ (cs1 ++ cs2).flatten ++ post)).Nodup := by
    refine List.Sublist.nodup ?_ nd
    rw [L.ctx.eq]
    refine List.Sublist.map _ ?_
    refine List.Sublist.append_right (List.Sublist.append_left ?_ _) _
    rw [List.flatten_append, List.flatten_append, List.flatten_cons]
    exact List.Sublist.append_left (List.sublist_append_right _ _) _
  rw [e1, c2.put nd2, L.rank nd, List.take_left, List.drop_left, e2, lift_lift, show -k + k = 0 by omega, lift_zero]
  conv => rhs; rw [L.ctx.eq]
  simp
end
end
end FM
end
section
set_option autoImplicit false
set_option linter.all false
namespace FM
inductive D (N : Type) where
  | put (n : N) (v : Int) (p : Option N) (r : Nat)
  | move (n : N) (p : Option N) (r : Nat)
  | cut (n : N)
  | lift (n : N)
  | wrap (n : N) (v : Int) (p : Option N) (f l : Nat)
  | rev (p : Option N)
  | setv (n : N) (v : Int)
section
variable {N : Type} [DecidableEq N]
def key (r : Row N) : N × Int := (r.n, r.v)
def keys (rs : Rows N) : List (N × Int) := rs.map key
structure Good (nm : N → Prop) (vv : Int → Prop) (ks : List (N × Int)) : Prop where
  nd : (ks.map (·.1)).Nodup
  nm : ∀ q ∈ ks, nm q.1
  vv : ∀ q ∈ ks, vv q.2
  len : ks.length ≤ 60
structure Ok (nm : N → Prop) (vv : Int → Prop) (rs : Rows N) : Prop where
  st : Steps (-1) rs
  gd : Good nm vv (keys rs)
theorem keys_names (rs : Rows N) : (keys rs).map (·.1) = names rs := by unfold keys names; rw [List.map_map]; rfl
theorem keys_app (xs ys : Rows N) : keys (xs ++ ys) = keys xs ++ keys ys := List.map_append
theorem keys_lift (d : Int) (rs : Rows N) : keys (FM.lift d rs) = keys rs := by unfold keys FM.lift; rw [List.map_map]; rfl
theorem keys_len (rs : Rows N) : (keys rs).length = rs.length := List.length_map ..
section
variable {nm : N → Prop} {vv : Int → Prop} {rs rs' : Rows N}
theorem Ok.nd (h : Ok nm vv rs) : (names rs).Nodup := by rw [← keys_names]; exact h.gd.nd
theorem Ok.len (h : Ok nm vv rs) : rs.length ≤ 60 := by rw [← keys_len]; exact h.gd.len
theorem Good.perm {ks ls : List (N × Int)} (h : Good nm vv ks) (p : ls.Perm ks) : Good nm vv ls :=
  ⟨(p.map _).nodup_iff.mpr h.nd, fun q hq => h.nm q (p.mem_iff.mp hq), fun q hq => h.vv q (p.mem_iff.mp hq), by rw [p.length_eq]; exact h.len⟩
theorem Good.sub {ks ls : List (N × Int)} (h : Good nm vv ks) (p : ls.Sublist ks) : Good nm vv ls :=
  ⟨(p.map _).nodup h.nd, fun q hq => h.nm q (p.mem hq), fun q hq => h.vv q (p.mem hq), Nat.le_trans p.length_le h.len⟩
theorem Good.add {ks ls : List (N × Int)} (h : Good nm vv ks) (hl : Good nm vv ls) (d : ∀ n, n ∈ ls.map (·.1) → n ∉ ks.map (·.1)) (z : ls.length + ks.length ≤ 60) : Good nm vv (ls ++ ks) := by
  refine ⟨?_, fun q hq => ?_, fun q hq => ?_, by rw [List.length_append]; exact z⟩
  · rw [List.map_append, List.nodup_append]
    exact ⟨hl.nd, h.nd, fun a ha b hb e => d a ha (e ▸ hb)⟩
  · rcases List.mem_append.mp hq with hq | hq
    · exact hl.nm q hq
    · exact h.nm q hq
  · rcases List.mem_append.mp hq with hq | hq
    · exact hl.vv q hq
    · exact h.vv q hq
/-! ## deeds -/
def parOk (rs : Rows N) (p : Option N) : Prop := ∀ n, p = some n → n ∈ names rs
def okD (nm : N → Prop) (vv : Int → Prop) (rs : Rows N) : D N → Prop
  | .put n v p r => nm n ∧ vv v ∧ parOk rs p ∧ n ∉ names rs ∧ r ≤ (kidsOf rs p).length ∧ rs.length < 60
  | .move n p r => n ∈ names rs ∧ parOk rs p ∧ (∀ m, p = some m → m ≠ n ∧ m ∉ names (bel rs n)) ∧ r ≤ ((kidsOf rs p).filter fun m => decide (m ≠ n)).length
  | .cut n => n ∈ names rs
  | .lift n => n ∈ names rs
  | .wrap n v p f l => nm n ∧ vv v ∧ parOk rs p ∧ n ∉ names rs ∧ f < l ∧ l ≤ (kidsOf rs p).length ∧ rs.length < 60
  | .rev p => parOk rs p
  | .setv n v => n ∈ names rs ∧ vv v
def doneD (rs : Rows N) : D N → Rows N
  | .put n v p r => putUnder rs p r [⟨n, v, 0⟩]
  | .move n p r => putUnder (without rs n) p r (sub rs n)
  | .cut n => without rs n
  | .lift n => lifted rs n
  | .wrap n v p f l => wrapped rs n v p f l
  | .rev p => withTrees rs p (trees rs p).reverse
  | .setv n v => setV rs n v
def putOf (rs : Rows N) (o : N) : D N := .put o (vl rs o) (par rs o) (rank rs o)
def putting (rs : Rows N) (n : N) : List (D N) := (n :: names (bel rs n)).map (putOf rs)
def undoD (rs : Rows N) : D N → List (D N)
  | .put n _ _ _ => [.cut n]
  | .wrap n _ _ _ _ => [.lift n]
  | .rev p => [.rev p]
  | .setv n _ => [.setv n (vl rs n)]
  | .move n _ _ => [.move n (par rs n) (rank rs n)]
  | .cut n => putting rs n
  | .lift n => if (kidsOf rs (some n)).length = 0 then putting rs n else [.wrap n (vl rs n) (par rs n) (rank rs n) (rank rs n + (kidsOf rs (some n)).length)]
/-- deeds that can be done, one after another -/
def Plays (nm : N → Prop) (vv : Int → Prop) : Rows N → List (D N) → Rows N → Prop
  | rs, [], rs' => rs = rs'
  | rs, d :: ds, rs' => okD nm vv rs d ∧ Plays nm vv (doneD rs d) ds rs'
/-! ## a tree put below a parent -/
theorem perm_mid (a b c d : List (N × Int)) : (a ++ (b ++ c) ++ d).Perm (b ++ (a ++ c ++ d)) := by
  rw [List.append_assoc, List.append_assoc, List.append_assoc]
  rw [← List.append_assoc a b]
  refine (List.Perm.append_right _ List.perm_append_comm).trans ?_
  rw [List.append_assoc]
theorem Ctx.putOk {p : Option N} {pre post : Rows N} {k : Int} {cs : List (Rows N)} (h : Ctx rs p pre k cs post) (o : Ok nm vv rs) {t : Rows N} (ht : Ch 0 t) (gt : Good nm vv (keys t)) (dj : ∀ n, n ∈ names t → n ∉ names rs) (z : t.length + rs.length ≤ 60) (r : Nat) :
    Ok nm vv (putUnder rs p r t) ∧ Ctx (putUnder rs p r t) p pre k (cs.take r ++ FM.lift k t :: cs.drop r) post := by
  have hc : ∀ c ∈ cs.take r ++ FM.lift k t :: cs.drop r, Ch k c := fun c hc => by
    rcases List.mem_append.mp hc with hc | hc
    · exact h.cs c (List.mem_of_mem_take hc)
    · rcases List.mem_cons.mp hc with e | hc
      · rw [e]
        have := ch_lift ht (d := k) (by have := h.k0; omega)
        rwa [show (0 : Int) + k = k by omega] at this
      · exact h.cs c (List.mem_of_mem_drop hc)
  have e : putUnder rs p r t = pre ++ (cs.take r ++ FM.lift k t :: cs.drop r).flatten ++ post := by
    rw [h.put o.nd]
    simp
  have c := h.swap hc
  rw [← e] at c
  refine ⟨⟨c.steps, ?_⟩, c⟩
  have g : Good nm vv (keys t ++ keys rs) := o.gd.add gt (fun n hn => by rw [keys_names] at hn ⊢; exact dj n hn) (by rw [keys_len, keys_len]; exact z)
  refine g.perm ?_
  rw [e, h.eq, keys_app, keys_app, List.flatten_append, List.flatten_cons, keys_app, keys_app, keys_lift, keys_app, keys_app]
  have q : (keys cs.flatten) = keys (cs.take r).flatten ++ keys (cs.drop r).flatten := by rw [← keys_app, ← List.flatten_append, List.take_append_drop]
  rw [q]
  have := perm_mid (keys pre ++ keys (cs.take r).flatten) (keys t) (keys (cs.drop r).flatten) (keys post)
  simpa [List.append_assoc] using this
end
end
end FM
end
section
set_option autoImplicit false
set_option linter.all false
namespace FM
section
variable {N : Type} [DecidableEq N] {nm : N → Prop} {vv : Int → Prop} {rs : Rows N}
theorem sub_keys {xs ys : Rows N} (h : xs.Sublist ys) : (keys xs).Sublist (keys ys) := h.map _
theorem sub_names {xs ys : Rows N} (h : xs.Sublist ys) : (names xs).Sublist (names ys) := h.map _
/-- what stays of a forest when one tree is taken out -/
theorem Ctx.outOk {p : Option N} {pre post : Rows N} {k : Int} {cs1 cs2 : List (Rows N)} {x : Row N} {t : Rows N} (h : Ctx rs p pre k (cs1 ++ (x :: t) :: cs2) post) (o : Ok nm vv rs) :
    without rs x.n = pre ++ (cs1 ++ cs2).flatten ++ post ∧ Ok nm vv (without rs x.n) ∧ Ctx (without rs x.n) p pre k (cs1 ++ cs2) post ∧ (without rs x.n).Sublist rs ∧ (keys rs).Perm (keys (x :: t) ++ keys (without rs x.n)) := by
  have e := h.out o.nd
  have c := h.swap (ds := cs1 ++ cs2) fun c hc => h.cs c (by
    rcases List.mem_append.mp hc with hc | hc
    · exact List.mem_append_left _ hc
    · exact List.mem_append_right _ (List.mem_cons_of_mem _ hc))
  rw [← e] at c
  have sb : (without rs x.n).Sublist rs := by
    conv => rhs; rw [h.eq]
    rw [e]
    refine List.Sublist.append_right (List.Sublist.append_left ?_ _) _
    rw [List.flatten_append, List.flatten_append, List.flatten_cons]
    exact List.Sublist.append_left (List.sublist_append_right _ _) _
  refine ⟨e, ⟨c.steps, o.gd.sub (sub_keys sb)⟩, c, sb, ?_⟩
  conv => lhs; rw [h.eq]
  rw [e]
  have := perm_mid (keys pre ++ keys cs1.flatten) (keys (x :: t)) (keys cs2.flatten) (keys post)
  rw [List.flatten_append, List.flatten_cons, List.flatten_append]
  simp only [keys_app, List.append_assoc] at this ⊢
  exact this
theorem nodup_of_perm {ks a b : List (N × Int)} (h : (ks.map (·.1)).Nodup) (p : ks.Perm (a ++ b)) : ∀ n, n ∈ a.map (·.1) → n ∉ b.map (·.1) := by
  have q := (p.map (·.1)).nodup_iff.mp h
  rw [List.map_append, List.nodup_append] at q
  intro n ha hb
  exact q.2.2 n ha n hb rfl
theorem mem_of_par {n m : N} (h : par rs n = some m) : m ∈ names rs := by
  have : ∀ (L : List (Row N)) (l : Int), ∀ a ∈ ancR L l, a ∈ names L := by
    intro L
    induction L with
    | nil => intro l a ha; cases ha
    | cons r L ih =>
      intro l a ha
      unfold ancR at ha
      split at ha
      · rcases List.mem_cons.mp ha with e | ha
        · rw [e]; simp [names]
        · exact List.mem_cons_of_mem _ (ih _ a ha)
      · exact List.mem_cons_of_mem _ (ih _ a ha)
  have h2 : m ∈ anc rs n := by
    unfold par at h
    cases e : anc rs n with
    | nil => rw [e] at h; cases h
    | cons a l => rw [e] at h; cases h; simp
  have h3 := this _ _ m h2
  obtain ⟨r, hr, e⟩ := of_names h3
  rw [← e]
  exact mem_names (List.mem_of_mem_take (List.mem_reverse.mp hr))
theorem key_good {n : N} {v : Int} (h1 : nm n) (h2 : vv v) (l : Int) : Good nm vv (keys [(⟨n, v, l⟩ : Row N)]) :=
  ⟨by simp [keys, key], fun q hq => by simp [keys, key] at hq; rw [hq]; exact h1, fun q hq => by simp [keys, key] at hq; rw [hq]; exact h2, by simp [keys]⟩
theorem ch_one (n : N) (v : Int) : Ch 0 [(⟨n, v, 0⟩ : Row N)] := ⟨⟨_, [], rfl, rfl, (fun r h => nomatch h), trivial⟩⟩
theorem take_drop {α : Type} (cs : List α) (r : Nat) : (cs.take r ++ cs.drop r) = cs := List.take_append_drop r cs
theorem main_put {n : N} {v : Int} {p : Option N} {r : Nat} (o : Ok nm vv rs) (h : okD nm vv rs (.put n v p r)) : Ok nm vv (doneD rs (.put n v p r)) ∧ Plays nm vv (doneD rs (.put n v p r)) (undoD rs (.put n v p r)) rs := by
  obtain ⟨h1, h2, h3, h4, h5, h6⟩ := h
  obtain ⟨pre, k, cs, post, c⟩ := ctx_of o.st h3
  obtain ⟨o1, c1⟩ := c.putOk o (ch_one n v) (key_good h1 h2 0) (fun m hm => by simp [names] at hm; rw [hm]; exact h4) (by simp; omega) r
  have e := c1.out (x := ⟨n, v, 0 + k⟩) (t := []) o1.nd
  refine ⟨o1, ?_, ?_⟩
  · show n ∈ names (putUnder rs p r [⟨n, v, 0⟩])
    rw [c1.eq]
    simp [names, FM.lift]
  · show without (putUnder rs p r [⟨n, v, 0⟩]) n = rs
    refine Eq.trans e ?_
    rw [take_drop, ← c.eq]
theorem main_wrap {n : N} {v : Int} {p : Option N} {f l : Nat} (o : Ok nm vv rs) (h : okD nm vv rs (.wrap n v p f l)) : Ok nm vv (doneD rs (.wrap n v p f l)) ∧ Plays nm vv (doneD rs (.wrap n v p f l)) (undoD rs (.wrap n v p f l)) rs := by
  obtain ⟨h1, h2, h3, h4, h5, h6, h7⟩ := h
  obtain ⟨pre, k, cs, post, c⟩ := ctx_of o.st h3
  have e := c.wrap o.nd n v f l
  have hm : ∀ d ∈ (cs.take l).drop f, Ch k d := fun d hd => c.cs d (List.mem_of_mem_take (List.mem_of_mem_drop hd))
  have hx : Ch k (⟨n, v, k⟩ :: FM.lift 1 ((cs.take l).drop f).flatten) := ⟨⟨_, _, rfl, rfl, fun r hr => by
    obtain ⟨q, hq, rfl⟩ := mem_lift hr
    have := chs_ge hm q hq
    show k < q.l + 1
    omega, by
    have := (chs_steps (a := k - 1) hm c.k0 (by omega)).1
    have := lift_steps (d := 1) this fun r hr => by have := chs_ge hm r hr; have := c.k0; omega
    rwa [show k - 1 + 1 = k by omega] at this⟩⟩
  have c1 := c.swap (ds := cs.take f ++ (⟨n, v, k⟩ :: FM.lift 1 ((cs.take l).drop f).flatten) :: cs.drop l) fun d hd => by
    rcases List.mem_append.mp hd with hd | hd
    · exact c.cs d (List.mem_of_mem_take hd)
    · rcases List.mem_cons.mp hd with e | hd
      · rw [e]; exact hx
      · exact c.cs d (List.mem_of_mem_drop hd)
  have e1 : wrapped rs n v p f l = pre ++ (cs.take f ++ (⟨n, v, k⟩ :: FM.lift 1 ((cs.take l).drop f).flatten) :: cs.drop l).flatten ++ post := by rw [e]; simp
  rw [← e1] at c1
  have hcs : cs = cs.take f ++ ((cs.take l).drop f ++ cs.drop l) := by
    have a : cs.take f = (cs.take l).take f := by rw [List.take_take, Nat.min_eq_left (by omega)]
    rw [a, ← List.append_assoc, List.take_append_drop, List.take_append_drop]
  have g : Good nm vv (keys [(⟨n, v, k⟩ : Row N)] ++ keys rs) := o.gd.add (key_good h1 h2 k) (fun m hm => by
    simp [keys, key] at hm
    rw [keys_names, hm]
    exact h4) (by rw [keys_len, keys_len]; simp; omega)
  have o1 : Ok nm vv (wrapped rs n v p f l) := ⟨c1.steps, g.perm (by
    rw [e1, c.eq]
    conv => rhs; rw [hcs]
    have := perm_mid (keys pre ++ keys (cs.take f).flatten) (keys [(⟨n, v, k⟩ : Row N)]) (keys ((cs.take l).drop f).flatten ++ keys (cs.drop l).flatten) (keys post)
    simp only [List.flatten_append, List.flatten_cons, keys_app, List.append_assoc] at this ⊢
    rw [show (⟨n, v, k⟩ : Row N) :: FM.lift 1 ((cs.take l).drop f).flatten = [⟨n, v, k⟩] ++ FM.lift 1 ((cs.take l).drop f).flatten from rfl, keys_app, keys_lift]
    simpa [List.append_assoc] using this)⟩
  refine ⟨o1, ?_, ?_⟩
  · show n ∈ names (wrapped rs n v p f l)
    rw [e1]
    simp [names]
  · show lifted (wrapped rs n v p f l) n = rs
    refine Eq.trans (c1.lifted (x := ⟨n, v, k⟩) o1.nd) ?_
    rw [lift_lift, show (1 : Int) + -1 = 0 by omega, lift_zero, c.eq]
    conv => rhs; rw [hcs]
    simp
theorem main_rev {p : Option N} (o : Ok nm vv rs) (h : okD nm vv rs (.rev p)) : Ok nm vv (doneD rs (.rev p)) ∧ Plays nm vv (doneD rs (.rev p)) (undoD rs (.rev p)) rs := by
  obtain ⟨pre, k, cs, post, c⟩ := ctx_of o.st h
  have e := c.revd o.nd
  have c1 := c.swap (ds := cs.reverse) fun d hd => c.cs d (List.mem_reverse.mp hd)
  rw [← e] at c1
  have o1 : Ok nm vv (withTrees rs p (trees rs p).reverse) := ⟨c1.steps, o.gd.perm (by
    rw [e, c.eq]
    simp only [keys_app]
    refine List.Perm.append_right _ (List.Perm.append_left _ ?_)
    exact (List.Perm.flatten (List.reverse_perm cs)).map _)⟩
  refine ⟨o1, fun m hm => ?_, ?_⟩
  · show m ∈ names (withTrees rs p (trees rs p).reverse)
    subst hm
    obtain ⟨A, X, e1, e2, _⟩ := c1.par
    rw [c1.eq, e1, ← e2]
    simp [names]
  · show withTrees (withTrees rs p (trees rs p).reverse) p (trees (withTrees rs p (trees rs p).reverse) p).reverse = rs
    rw [c1.revd o1.nd, List.reverse_reverse, ← c.eq]
theorem setV_names (n : N) (v : Int) (rs : Rows N) : names (setV rs n v) = names rs := by unfold setV names; rw [List.map_map]; rfl
theorem setV_steps {n : N} {v : Int} : ∀ {rs : Rows N} {a : Int}, Steps a rs → Steps a (setV rs n v)
  | [], _, _ => trivial
  | r :: rs, a, ⟨h0, h1, h2⟩ => ⟨h0, h1, setV_steps h2⟩
theorem main_set {n : N} {v : Int} (o : Ok nm vv rs) (h : okD nm vv rs (.setv n v)) : Ok nm vv (doneD rs (.setv n v)) ∧ Plays nm vv (doneD rs (.setv n v)) (undoD rs (.setv n v)) rs := by
  obtain ⟨h1, h2⟩ := h
  have o1 : Ok nm vv (setV rs n v) := by
    refine ⟨setV_steps o.st, ⟨by rw [keys_names, setV_names]; exact o.nd, fun q hq => ?_, fun q hq => ?_, by rw [keys_len]; unfold setV; rw [List.length_map]; exact o.len⟩⟩
    · obtain ⟨r, hr, e⟩ := List.mem_map.mp hq
      obtain ⟨r0, hr0, e0⟩ := List.mem_map.mp hr
      rw [← e, ← e0]
      exact o.gd.nm (key r0) (List.mem_map.mpr ⟨r0, hr0, rfl⟩)
    · obtain ⟨r, hr, e⟩ := List.mem_map.mp hq
      obtain ⟨r0, hr0, e0⟩ := List.mem_map.mp hr
      rw [← e, ← e0]
      show vv (if r0.n = n then v else r0.v)
      split
      · exact h2
      · exact o.gd.vv (key r0) (List.mem_map.mpr ⟨r0, hr0, rfl⟩)
  obtain ⟨A, X, R, e, e1⟩ := split_at h1
  have hno : X.n ∉ names A := by
    intro hm
    have nd := o.nd
    rw [e, names_app] at nd
    exact (List.nodup_append.mp nd).2.2 _ hm X.n (by simp [names]) rfl
  have hv : vl rs n = X.v := by rw [← e1, e, vl_at hno]
  refine ⟨o1, ⟨?_, ?_⟩, ?_⟩
  · show n ∈ names (setV rs n v)
    rw [setV_names]
    exact h1
  · rw [hv]
    exact o.gd.vv (key X) (List.mem_map.mpr ⟨X, by rw [e]; simp, rfl⟩)
  · show setV (setV rs n v) n (vl rs n) = rs
    unfold setV
    rw [List.map_map]
    conv => rhs; rw [← List.map_id rs]
    refine List.map_congr_left fun r hr => ?_
    show ({ r with v := if r.n = n then vl rs n else if r.n = n then v else r.v } : Row N) = r
    split
    · rename_i hrn
      have : r = X := by
        have nd := o.nd
        rw [e] at hr nd
        rcases List.mem_append.mp hr with hr | hr
        · exact absurd (mem_names hr) (by rw [hrn, ← e1]; exact hno)
        · rcases List.mem_cons.mp hr with hr | hr
          · exact hr
          · rw [names_app] at nd
            have q := (List.nodup_append.mp nd).2.1
            have : X.n ∉ names R := (List.nodup_cons.mp q).1
            exact absurd (mem_names hr) (by rw [hrn, ← e1]; exact this)
      rw [hv, this]
    · rename_i hrn
      rfl
end
end FM
end
section
set_option autoImplicit false
set_option linter.all false
namespace FM
section
variable {N : Type} [DecidableEq N] {nm : N → Prop} {vv : Int → Prop} {rs : Rows N}
/-- the rank, read off what stands ahead -/
def rk (A : Rows N) (p : Option N) (l : Int) : Nat := ((A.drop (match p with | none => 0 | some m => (names A).idxOf m + 1)).filter fun r => decide (r.l = l)).length
theorem flat_count {k : Int} {cs : List (Rows N)} (h : ∀ c ∈ cs, Ch k c) : (cs.flatten.filter fun r => decide (r.l = k)).length = cs.length := by
  have := congrArg List.length (filter_chs h)
  rw [heads_len h] at this
  unfold names at this
  rwa [List.length_map] at this
theorem Loc.rankA {n : N} {pre post : Rows N} {k : Int} {cs1 cs2 : List (Rows N)} {x : Row N} {t : Rows N} (L : Loc rs n pre k cs1 x t cs2 post) (nd : (names rs).Nodup) : FM.rank rs n = rk (pre ++ cs1.flatten) (par rs n) x.l := by
  rw [L.rank nd]
  have hx : x.l = k := (L.ctx.at_c nd).2.1
  have hc : ∀ c ∈ cs1, Ch k c := fun c hc => L.ctx.cs c (List.mem_append_left _ hc)
  have hp := L.ctx.par
  have hno : (names (pre ++ cs1.flatten)).Nodup := by
    rw [L.ctx.eq] at nd
    refine List.Sublist.nodup (sub_names ?_) nd
    rw [List.flatten_append]
    refine List.Sublist.trans ?_ (List.sublist_append_left _ _)
    exact List.Sublist.append_left (List.sublist_append_left _ _) _
  unfold rk
  cases hq : par rs n with
  | none =>
    rw [hq] at hp
    have hp : pre = [] ∧ post = [] ∧ k = 0 := hp
    rw [hp.1, hx]
    simp only [List.nil_append, List.drop_zero]
    exact (flat_count hc).symm
  | some m =>
    rw [hq] at hp
    obtain ⟨A, X, e, e1, e2⟩ := hp
    have hX : X.n ∉ names A := by
      rw [e] at hno
      intro hm
      simp only [names_app, List.append_assoc] at hno
      exact (List.nodup_append.mp hno).2.2 _ hm X.n (by simp [names]) rfl
    have : (names (pre ++ cs1.flatten)).idxOf m = A.length := by
      have := idx_at (A := A) (R := cs1.flatten) hX
      unfold FM.pl at this
      rw [e, ← e1, List.append_assoc]
      exact this
    show cs1.length = ((List.drop ((names (pre ++ cs1.flatten)).idxOf m + 1) (pre ++ cs1.flatten)).filter _).length
    rw [this, e, hx, show A.length + 1 = (A ++ [X]).length by simp, List.drop_left]
    exact (flat_count hc).symm
theorem mem_ancR : ∀ (L : List (Row N)) (l : Int), ∀ a ∈ ancR L l, a ∈ names L
  | [], l, a, ha => by cases ha
  | r :: L, l, a, ha => by
    unfold ancR at ha
    split at ha
    · rcases List.mem_cons.mp ha with e | ha
      · rw [e]; simp [names]
      · exact List.mem_cons_of_mem _ (mem_ancR L _ a ha)
    · exact List.mem_cons_of_mem _ (mem_ancR L _ a ha)
theorem At.parMem {A B C : Rows N} {X : Row N} (h : At rs A X B C) {m : N} (e : FM.par rs X.n = some m) : m ∈ names A := by
  have h2 : m ∈ FM.anc rs X.n := by
    unfold FM.par at e
    cases q : FM.anc rs X.n with
    | nil => rw [q] at e; cases e
    | cons a l => rw [q] at e; cases e; simp
  rw [h.anc] at h2
  have := mem_ancR _ _ _ h2
  obtain ⟨r, hr, e⟩ := of_names this
  rw [← e]
  exact mem_names (List.mem_reverse.mp hr)
theorem par_at {A R : Rows N} {X : Row N} (h : X.n ∉ names A) : par (A ++ X :: R) X.n = (ancR A.reverse X.l).head? := by unfold par; rw [anc_at h]
/-- a node without children, taken out and put again -/
theorem leaf {S A Q : Rows N} {x : Row N} (o : Ok nm vv S) (a : At S A x [] Q) :
    okD nm vv (A ++ Q) (.put x.n x.v (par S x.n) (rank S x.n)) ∧ doneD (A ++ Q) (.put x.n x.v (par S x.n) (rank S x.n)) = S ∧ rank S x.n = rk A (par S x.n) x.l := by
  have hn : x.n ∈ names S := by rw [a.eq]; simp [names]
  obtain ⟨pre, k, cs1, y, t, cs2, post, L⟩ := loc_of o.st o.nd hn
  have at1 := L.at_ o.nd
  have hA : pre ++ cs1.flatten = A := by
    have h1 := at1.take
    rw [L.nm, a.take] at h1
    exact h1.symm
  have hw : without S x.n = A ++ Q := a.without
  have hs : sub S x.n = [⟨x.n, x.v, 0⟩] := by
    rw [a.sub]
    show [({ x with l := x.l + -x.l } : Row N)] = _
    rw [show x.l + -x.l = 0 by omega]
  have back := L.back o.nd
  rw [hw, hs] at back
  have hxl : y = x := by
    have h1 := at1.eq
    have h2 := a.eq
    rw [hA] at h1
    rw [h1] at h2
    have := List.append_cancel_left h2
    exact (List.cons.inj this).1
  have rkA := L.rankA o.nd
  rw [hA, hxl] at rkA
  refine ⟨⟨o.gd.nm (key x) (List.mem_map.mpr ⟨x, by rw [a.eq]; simp, rfl⟩), o.gd.vv (key x) (List.mem_map.mpr ⟨x, by rw [a.eq]; simp, rfl⟩), fun m hm => ?_, ?_, ?_, ?_⟩, back, rkA⟩
  · rw [names_app]
    exact List.mem_append_left _ (a.parMem hm)
  · intro hm
    have nd := o.nd
    rw [a.eq] at nd
    rw [names_app] at hm
    rcases List.mem_append.mp hm with hm | hm
    · exact a.no hm
    · rw [names_app] at nd
      exact (List.nodup_cons.mp (List.nodup_append.mp nd).2.1).1 hm
  · have c := L.ctx
    rw [← L.nm] at c hw ⊢
    obtain ⟨_, o1, c1, _, _⟩ := c.outOk o
    rw [hw] at c1 o1
    rw [c1.kidsLen o1.nd, L.nm, L.rank o.nd, List.length_append]
    omega
  · have := o.len
    rw [a.eq] at this
    simp at this ⊢
    omega
theorem plays_leaves {P Q : Rows N} {k : Int} (hQ : ∀ r, Q.head? = some r → r.l ≤ k) : ∀ (c2 c1 : Rows N), (∀ d1 d2 x, c1 ++ c2 = d1 ++ x :: d2 → c1.length ≤ d1.length → Ok nm vv (P ++ (d1 ++ [x]) ++ Q) ∧ k ≤ x.l) →
    Ok nm vv rs → rs = P ++ (c1 ++ c2) ++ Q → Plays nm vv (P ++ c1 ++ Q) ((names c2).map (putOf rs)) rs
  | [], c1, _, _, e => by
    show P ++ c1 ++ Q = rs
    rw [e, List.append_nil]
  | x :: c2, c1, h, o, e => by
    obtain ⟨oS, hk⟩ := h c1 c2 x rfl (Nat.le_refl _)
    have ha : At (P ++ (c1 ++ [x]) ++ Q) (P ++ c1) x [] Q := by
      refine ⟨by simp, ?_, (fun r hr => nomatch hr), fun r hr => by have := hQ r hr; omega⟩
      intro hm
      have nd := oS.nd
      rw [show P ++ (c1 ++ [x]) ++ Q = (P ++ c1) ++ x :: Q by simp, names_app] at nd
      exact (List.nodup_append.mp nd).2.2 _ hm x.n (by simp [names]) rfl
    obtain ⟨h1, h2, h3⟩ := leaf oS ha
    have er : rs = (P ++ c1) ++ x :: (c2 ++ Q) := by rw [e]; simp
    have hno := ha.no
    have ep : par (P ++ (c1 ++ [x]) ++ Q) x.n = par rs x.n := by
      rw [er, par_at hno, show P ++ (c1 ++ [x]) ++ Q = (P ++ c1) ++ x :: Q by simp, par_at hno]
    have ev : vl rs x.n = x.v := by rw [er, vl_at hno]
    have ek : rank (P ++ (c1 ++ [x]) ++ Q) x.n = rank rs x.n := by
      obtain ⟨pre, k', cs1, y, t, cs2, post, L⟩ := loc_of o.st o.nd (n := x.n) (by rw [er]; simp [names])
      have at1 := L.at_ o.nd
      have hA : pre ++ cs1.flatten = P ++ c1 := by
        have q := at1.take
        rw [L.nm] at q
        rw [← q]
        have : FM.pl rs x.n = (P ++ c1).length := by rw [er]; exact idx_at hno
        rw [this, er, List.take_left]
      have hy : y = x := by
        have q1 := at1.eq
        rw [hA] at q1
        rw [q1] at er
        exact (List.cons.inj (List.append_cancel_left er)).1
      rw [h3, L.rankA o.nd, hA, hy, ep]
    rw [ep, ek] at h1 h2
    show okD nm vv (P ++ c1 ++ Q) (.put x.n (vl rs x.n) (par rs x.n) (rank rs x.n)) ∧ Plays nm vv (doneD (P ++ c1 ++ Q) (.put x.n (vl rs x.n) (par rs x.n) (rank rs x.n))) ((names c2).map (putOf rs)) rs
    rw [ev]
    refine ⟨h1, ?_⟩
    rw [h2]
    refine plays_leaves hQ c2 (c1 ++ [x]) (fun d1 d2 y e2 z => h d1 d2 y (by rw [← e2]; simp) (by rw [List.length_append] at z; omega)) o (by rw [e]; simp)
theorem steps_take : ∀ {xs ys : Rows N} {a : Int}, Steps a (xs ++ ys) → Steps a xs := fun {xs ys a} h => ((steps_app xs ys a).mp h).1
theorem plays_putting {n : N} (o : Ok nm vv rs) (hn : n ∈ names rs) : Plays nm vv (without rs n) (putting rs n) rs := by
  obtain ⟨pre, k, cs1, x, t, cs2, post, L⟩ := loc_of o.st o.nd hn
  have a := L.at_ o.nd
  have hx := (L.ctx.at_c o.nd).2
  have hw : without rs n = (pre ++ cs1.flatten) ++ [] ++ (cs2.flatten ++ post) := by rw [← L.nm, a.without]; simp
  have hb : n :: names (bel rs n) = names (x :: t) := by rw [← L.nm, a.bel]; rfl
  unfold putting
  rw [hw, hb]
  refine plays_leaves (k := k) (fun r hr => ?_) (x :: t) [] (fun d1 d2 y e z => ?_) o (by rw [a.eq]; simp)
  · have := a.ce r hr
    omega
  · rw [List.nil_append] at e
    -- the first rows of the tree are a tree
    have hch : Ch k (d1 ++ [y]) := by
      have st : Steps k t := hx.2.2
      cases d1 with
      | nil =>
        rw [List.nil_append] at e
        injection e with e1 e2
        subst e1
        exact ⟨⟨x, [], rfl, hx.1, (fun r hr => nomatch hr), trivial⟩⟩
      | cons z d1 =>
        rw [List.cons_append] at e
        injection e with e1 e2
        subst e1
        have e3 : t = (d1 ++ [y]) ++ d2 := by rw [e2]; simp
        exact ⟨⟨x, d1 ++ [y], rfl, hx.1, fun r hr => hx.2.1 r (by rw [e3]; exact List.mem_append_left _ hr), steps_take (ys := d2) (by rw [← e3]; exact st)⟩⟩
    have c := L.ctx.swap (ds := cs1 ++ (d1 ++ [y]) :: cs2) fun d hd => by
      rcases List.mem_append.mp hd with hd | hd
      · exact L.ctx.cs d (List.mem_append_left _ hd)
      · rcases List.mem_cons.mp hd with e | hd
        · rw [e]; exact hch
        · exact L.ctx.cs d (List.mem_append_right _ (List.mem_cons_of_mem _ hd))
    have eS : pre ++ (cs1 ++ (d1 ++ [y]) :: cs2).flatten ++ post = pre ++ cs1.flatten ++ (d1 ++ [y]) ++ (cs2.flatten ++ post) := by simp
    rw [eS] at c
    refine ⟨⟨c.steps, o.gd.sub (sub_keys ?_)⟩, ch_ge hch y (by simp)⟩
    have e9 : rs = pre ++ cs1.flatten ++ ((d1 ++ y :: d2) ++ (cs2.flatten ++ post)) := by
      rw [← e]
      exact a.eq
    conv => rhs; rw [e9]
    rw [List.append_assoc (pre ++ cs1.flatten) (d1 ++ [y])]
    refine List.Sublist.append_left (List.Sublist.append_right ?_ _) _
    rw [show d1 ++ y :: d2 = (d1 ++ [y]) ++ d2 by simp]
    exact List.sublist_append_left _ _
theorem main_cut {n : N} (o : Ok nm vv rs) (h : okD nm vv rs (.cut n)) : Ok nm vv (doneD rs (.cut n)) ∧ Plays nm vv (doneD rs (.cut n)) (undoD rs (.cut n)) rs := by
  obtain ⟨pre, k, cs1, x, t, cs2, post, L⟩ := loc_of o.st o.nd h
  refine ⟨?_, plays_putting o h⟩
  have c := L.ctx
  obtain ⟨_, o1, _⟩ := c.outOk o
  rw [L.nm] at o1
  exact o1
end
end FM
end
section
set_option autoImplicit false
set_option linter.all false
namespace FM
section
variable {N : Type} [DecidableEq N] {nm : N → Prop} {vv : Int → Prop} {rs : Rows N}
theorem main_lift {n : N} (o : Ok nm vv rs) (h : okD nm vv rs (.lift n)) : Ok nm vv (doneD rs (.lift n)) ∧ Plays nm vv (doneD rs (.lift n)) (undoD rs (.lift n)) rs := by
  obtain ⟨pre, k, cs1, x, t, cs2, post, L⟩ := loc_of o.st o.nd h
  have a := L.at_ o.nd
  have hx := (L.ctx.at_c o.nd).2
  obtain ⟨ds, et, hd⟩ := chunks_ex (k := k + 1) _ t (Nat.le_refl _) (fun r hr => by have := hx.2.1 r hr; omega) (by rw [show k + 1 - 1 = k by omega]; exact hx.2.2)
  have hk : (kidsOf rs (some n)).length = ds.length := by
    rw [← L.nm, a.kids, hx.1, et]
    unfold names
    rw [List.length_map]
    exact flat_count hd
  have hds : ∀ c ∈ ds.map (FM.lift (-1)), Ch k c := fun c hc => by
    obtain ⟨c0, h0, e⟩ := List.mem_map.mp hc
    rw [← e]
    have := ch_lift (hd c0 h0) (d := -1) (by have := L.ctx.k0; omega)
    rwa [show k + 1 + -1 = k by omega] at this
  have c1 := L.ctx.swap (ds := cs1 ++ (ds.map (FM.lift (-1)) ++ cs2)) fun c hc => by
    rcases List.mem_append.mp hc with hc | hc
    · exact L.ctx.cs c (List.mem_append_left _ hc)
    · rcases List.mem_append.mp hc with hc | hc
      · exact hds c hc
      · exact L.ctx.cs c (List.mem_append_right _ (List.mem_cons_of_mem _ hc))
  have el : lifted rs n = pre ++ (cs1 ++ (ds.map (FM.lift (-1)) ++ cs2)).flatten ++ post := by
    rw [← L.nm, L.ctx.lifted o.nd, et, lift_flatten]
    simp
  rw [← el] at c1
  have pk : (keys rs).Perm (keys [x] ++ keys (lifted rs n)) := by
    conv => lhs; rw [L.ctx.eq]
    rw [el]
    have q : keys (cs1 ++ (x :: t) :: cs2).flatten = keys cs1.flatten ++ (keys [x] ++ (keys t ++ keys cs2.flatten)) := by
      rw [List.flatten_append, List.flatten_cons, keys_app, keys_app, show x :: t = [x] ++ t from rfl, keys_app, List.append_assoc]
    have q2 : keys (cs1 ++ (ds.map (FM.lift (-1)) ++ cs2)).flatten = keys cs1.flatten ++ (keys t ++ keys cs2.flatten) := by
      rw [List.flatten_append, List.flatten_append, keys_app, keys_app, ← lift_flatten, keys_lift, ← et]
    rw [keys_app, keys_app, keys_app, keys_app, q, q2]
    have := perm_mid (keys pre ++ keys cs1.flatten) (keys [x]) (keys t ++ keys cs2.flatten) (keys post)
    simpa [List.append_assoc] using this
  have o1 : Ok nm vv (lifted rs n) := by
    refine ⟨c1.steps, ?_⟩
    have g := o.gd.perm pk.symm
    exact g.sub (List.sublist_append_right _ _)
  refine ⟨o1, ?_⟩
  show Plays nm vv (lifted rs n) (if (kidsOf rs (some n)).length = 0 then putting rs n else _) rs
  by_cases h0 : (kidsOf rs (some n)).length = 0
  · rw [if_pos h0]
    have hds0 : ds = [] := List.length_eq_zero_iff.mp (by rw [← hk]; exact h0)
    have ht : t = [] := by rw [et, hds0]; rfl
    have ew : lifted rs n = without rs n := by
      rw [← L.nm, L.ctx.lifted o.nd, L.ctx.out o.nd, ht]
      simp [FM.lift]
    rw [ew]
    exact plays_putting o h
  · rw [if_neg h0]
    have hv : vl rs n = x.v := by rw [← L.nm, a.vl]
    have hr := L.rank o.nd
    have hnm : nm x.n := o.gd.nm (key x) (List.mem_map.mpr ⟨x, by rw [a.eq]; simp, rfl⟩)
    have hvv : vv x.v := o.gd.vv (key x) (List.mem_map.mpr ⟨x, by rw [a.eq]; simp, rfl⟩)
    have dj := nodup_of_perm o.gd.nd pk
    rw [hv, hr, hk]
    refine ⟨⟨by rw [← L.nm]; exact hnm, hvv, fun m hm => ?_, ?_, ?_, ?_, ?_⟩, ?_⟩
    · have : m ∈ names (pre ++ cs1.flatten) := a.parMem (by rw [L.nm]; exact hm)
      have e9 : lifted rs n = (pre ++ cs1.flatten) ++ (FM.lift (-1) t ++ cs2.flatten ++ post) := by rw [← L.nm, L.ctx.lifted o.nd]; simp
      rw [e9, names_app]
      exact List.mem_append_left _ this
    · have := dj x.n (by simp [keys, key])
      rw [keys_names] at this
      rw [← L.nm]
      rw [← L.nm] at this
      exact this
    · omega
    · rw [c1.kidsLen o1.nd]
      simp
    · have q := pk.length_eq
      rw [List.length_append, keys_len, keys_len, keys_len] at q
      have := o.len
      simp at q
      omega
    · show wrapped (lifted rs n) n x.v (par rs n) cs1.length (cs1.length + ds.length) = rs
      rw [c1.wrap o1.nd, List.take_left]
      have e1 : (List.drop cs1.length (List.take (cs1.length + ds.length) (cs1 ++ (ds.map (FM.lift (-1)) ++ cs2)))) = ds.map (FM.lift (-1)) := by
        rw [show cs1.length + ds.length = (cs1 ++ ds.map (FM.lift (-1))).length by simp, ← List.append_assoc, List.take_left, List.drop_left]
      have e2 : List.drop (cs1.length + ds.length) (cs1 ++ (ds.map (FM.lift (-1)) ++ cs2)) = cs2 := by
        rw [show cs1.length + ds.length = (cs1 ++ ds.map (FM.lift (-1))).length by simp, ← List.append_assoc, List.drop_left]
      rw [e1, e2, ← lift_flatten, lift_lift, show (-1 : Int) + 1 = 0 by omega, lift_zero, ← et]
      have ex : (⟨n, x.v, k⟩ : Row N) = x := by
        rw [← L.nm, ← hx.1]
      rw [ex]
      conv => rhs; rw [L.ctx.eq]
      simp
/-! ## a tree laid elsewhere leaves the children of the others -/
theorem tw_split {p : Row N → Bool} : ∀ {P2 M : Rows N}, (∃ r ∈ P2, p r = false) → (P2 ++ M).takeWhile p = P2.takeWhile p
  | [], M, h => by obtain ⟨r, hr, _⟩ := h; cases hr
  | x :: P2, M, h => by
    rw [List.cons_append, List.takeWhile_cons, List.takeWhile_cons]
    split
    · rename_i hx
      rw [tw_split]
      obtain ⟨r, hr, e⟩ := h
      rcases List.mem_cons.mp hr with q | hr
      · rw [q, hx] at e; cases e
      · exact ⟨r, hr, e⟩
    · rfl
theorem tw_all_app {p : Row N → Bool} : ∀ {P2 M : Rows N}, (∀ r ∈ P2, p r = true) → (P2 ++ M).takeWhile p = P2 ++ M.takeWhile p
  | [], M, _ => rfl
  | x :: P2, M, h => by
    rw [List.cons_append, List.takeWhile_cons, if_pos (h x List.mem_cons_self), tw_all_app fun r hr => h r (List.mem_cons_of_mem _ hr)]
    rfl
theorem bel_ins {P Q c : Rows N} {k : Int} (hc : Ch k c) (hQ : ∀ r, Q.head? = some r → r.l ≤ k) (nd : (names (P ++ c ++ Q)).Nodup) {m : N} (hm : m ∈ names (P ++ Q)) :
    (bel (P ++ Q) m).Sublist (bel (P ++ c ++ Q) m) ∧ lv (P ++ Q) m = lv (P ++ c ++ Q) m := by
  rw [names_app] at hm
  rcases List.mem_append.mp hm with hm | hm
  · obtain ⟨P1, M, P2, e, e1⟩ := split_at hm
    have hno : M.n ∉ names P1 := by
      intro h
      rw [e] at nd
      simp only [names_app, List.append_assoc] at nd
      exact (List.nodup_append.mp nd).2.2 _ h M.n (by simp [names]) rfl
    have a1 : P ++ Q = P1 ++ M :: (P2 ++ Q) := by rw [e]; simp
    have a2 : P ++ c ++ Q = P1 ++ M :: (P2 ++ (c ++ Q)) := by rw [e]; simp
    rw [a1, a2, ← e1, bel_at hno, bel_at hno, lv_at hno, lv_at hno]
    refine ⟨?_, rfl⟩
    by_cases hz : ∃ r ∈ P2, decide (M.l < r.l) = false
    · rw [tw_split hz, tw_split hz]
      exact List.Sublist.refl _
    · have hz : ∀ r ∈ P2, decide (M.l < r.l) = true := fun r hr => by
        cases q : decide (M.l < r.l) with
        | true => rfl
        | false => exact absurd ⟨r, hr, q⟩ hz
      rw [tw_all_app hz, tw_all_app hz]
      refine List.Sublist.append_left ?_ _
      by_cases hk : M.l < k
      · rw [tw_all_app (P2 := c) fun r hr => by have := ch_ge hc r hr; simp; omega]
        exact List.sublist_append_right _ _
      · have : Q.takeWhile (fun r => decide (M.l < r.l)) = [] := by
          cases Q with
          | nil => rfl
          | cons q Q =>
            have := hQ q rfl
            rw [List.takeWhile_cons, if_neg (by simp; omega)]
        rw [this]
        exact List.nil_sublist _
  · obtain ⟨Q1, M, Q2, e, e1⟩ := split_at hm
    have nd' := nd
    have hno : M.n ∉ names (P ++ c ++ Q1) := by
      intro h
      rw [e, show P ++ c ++ (Q1 ++ M :: Q2) = (P ++ c ++ Q1) ++ M :: Q2 by simp, names_app] at nd
      exact (List.nodup_append.mp nd).2.2 _ h M.n (by simp [names]) rfl
    have hno2 : M.n ∉ names (P ++ Q1) := fun h => hno (by
      simp only [names_app] at h ⊢
      rcases List.mem_append.mp h with h | h
      · exact List.mem_append_left _ (List.mem_append_left _ h)
      · exact List.mem_append_right _ h)
    have a1 : P ++ Q = (P ++ Q1) ++ M :: Q2 := by rw [e]; simp
    have a2 : P ++ c ++ Q = (P ++ c ++ Q1) ++ M :: Q2 := by rw [e]; simp
    rw [a1, a2, ← e1, bel_at hno, bel_at hno2, lv_at hno, lv_at hno2]
    exact ⟨List.Sublist.refl _, rfl⟩
theorem kids_ins {P Q c : Rows N} {k : Int} (hc : Ch k c) (hQ : ∀ r, Q.head? = some r → r.l ≤ k) (nd : (names (P ++ c ++ Q)).Nodup) {q : Option N} (hq : parOk (P ++ Q) q) : (kidsOf (P ++ Q) q).Sublist (kidsOf (P ++ c ++ Q) q) := by
  cases q with
  | none =>
    refine List.Sublist.map _ (List.Sublist.filter _ ?_)
    exact List.Sublist.append_right (List.sublist_append_left _ _) _
  | some m =>
    obtain ⟨h1, h2⟩ := bel_ins hc hQ nd (hq m rfl)
    show (names ((bel (P ++ Q) m).filter fun r => decide (r.l = lv (P ++ Q) m + 1))).Sublist (names ((bel (P ++ c ++ Q) m).filter fun r => decide (r.l = lv (P ++ c ++ Q) m + 1)))
    rw [h2]
    exact (h1.filter _).map _
theorem kids_mem {q : Option N} {m : N} (h : m ∈ kidsOf rs q) : m ∈ names rs := by
  cases q with
  | none =>
    obtain ⟨r, hr, e⟩ := of_names h
    rw [← e]
    exact mem_names (List.mem_filter.mp hr).1
  | some p =>
    obtain ⟨r, hr, e⟩ := of_names h
    rw [← e]
    have := (List.mem_filter.mp hr).1
    exact mem_names (List.mem_of_mem_drop ((List.takeWhile_sublist _).mem this))
theorem main_move {n : N} {p : Option N} {r : Nat} (o : Ok nm vv rs) (h : okD nm vv rs (.move n p r)) : Ok nm vv (doneD rs (.move n p r)) ∧ Plays nm vv (doneD rs (.move n p r)) (undoD rs (.move n p r)) rs := by
  obtain ⟨hn, hp, hb, _⟩ := h
  obtain ⟨pre, k, cs1, x, t, cs2, post, L⟩ := loc_of o.st o.nd hn
  have a := L.at_ o.nd
  have hx := (L.ctx.at_c o.nd).2
  have c0 := L.ctx
  obtain ⟨e0, o0, c0, sb, pk⟩ := c0.outOk o
  rw [L.nm] at e0 o0 c0 sb pk
  have dj := nodup_of_perm o.gd.nd pk
  rw [keys_names, keys_names] at dj
  have hmem : ∀ m, m ∈ names rs → m ∉ names (x :: t) → m ∈ names (without rs n) := fun m h1 h2 => by
    have q := (pk.map (·.1)).mem_iff (a := m)
    rw [keys_names, List.map_append, keys_names, keys_names] at q
    rcases List.mem_append.mp (q.mp h1) with q | q
    · exact absurd q h2
    · exact q
  have hbel : bel rs n = t := by rw [← L.nm, a.bel]
  have hp0 : parOk (without rs n) p := fun m hm => hmem m (hp m hm) (by
    obtain ⟨h1, h2⟩ := hb m hm
    rw [hbel] at h2
    show m ∉ x.n :: names t
    rw [L.nm]
    exact fun q => (List.mem_cons.mp q).elim h1 h2)
  obtain ⟨pre', k', cs', post', c'⟩ := ctx_of o0.st hp0
  have hsub : sub rs n = FM.lift (-k) (x :: t) := by rw [← L.nm]; exact L.ctx.sub o.nd
  have hch : Ch 0 (sub rs n) := by
    rw [hsub]
    have := ch_lift (L.ctx.cs (x :: t) (by simp)) (d := -k) (by omega)
    rwa [show k + -k = 0 by omega] at this
  have gs : Good nm vv (keys (sub rs n)) := by
    rw [hsub, keys_lift]
    exact (o.gd.perm pk.symm).sub (List.sublist_append_left _ _)
  have len := pk.length_eq
  rw [List.length_append, keys_len, keys_len, keys_len] at len
  obtain ⟨o1, c1⟩ := c'.putOk o0 hch gs (fun m hm => by rw [hsub, lift_names] at hm; exact dj m hm) (by
    rw [hsub]
    have := o.len
    unfold FM.lift
    rw [List.length_map]
    omega) r
  have hback := L.back o.nd
  -- the moved tree in its new place
  obtain ⟨y, u, ey, hy, hu, hs⟩ := hch.ex
  have hsub2 := hsub
  rw [ey] at hsub2
  have hyn : y.n = n := by
    have := congrArg names hsub2
    rw [lift_names] at this
    have := (List.cons.inj this).1
    exact Eq.trans this L.nm
  have hun : names u = names t := by
    have := congrArg names hsub2
    rw [lift_names] at this
    exact (List.cons.inj this).2
  have el : FM.lift k' (sub rs n) = { y with l := y.l + k' } :: FM.lift k' u := by rw [ey]; rfl
  have c2 := c1
  rw [el] at c2
  have a2 := (c2.at_c o1.nd).1
  have w2 : without (putUnder (without rs n) p r (sub rs n)) n = without rs n := by
    have := c2.out o1.nd
    rw [show ({ y with l := y.l + k' } : Row N).n = n from hyn] at this
    rw [this, take_drop]
    exact c'.eq.symm
  have s2 : FM.sub (putUnder (without rs n) p r (sub rs n)) n = sub rs n := by
    have := (congrArg (FM.sub (putUnder (without rs n) p r (sub rs n))) (show n = ({ y with l := y.l + k' } : Row N).n from hyn.symm)).trans (c2.sub o1.nd)
    rw [this, ← el, lift_lift, show k' + -k' = 0 by omega, lift_zero]
  have pmem : ∀ m, par rs n = some m → m ∈ names (without rs n) := fun m hm => by
    have : m ∈ names (pre ++ cs1.flatten) := a.parMem (by rw [L.nm]; exact hm)
    rw [← L.nm, a.without, names_app]
    exact List.mem_append_left _ this
  have hsb : (without rs n).Sublist (putUnder (without rs n) p r (sub rs n)) := by
    rw [c1.eq]
    conv => lhs; rw [c'.eq, ← take_drop cs' r]
    refine List.Sublist.append_right (List.Sublist.append_left ?_ _) _
    rw [List.flatten_append, List.flatten_append, List.flatten_cons]
    exact List.Sublist.append_left (List.sublist_append_right _ _) _
  refine ⟨o1, ⟨?_, ?_, ?_, ?_⟩, ?_⟩
  · show n ∈ names (putUnder (without rs n) p r (sub rs n))
    rw [a2.eq]
    simp [names, hyn]
  · exact fun m hm => (sub_names hsb).mem (pmem m hm)
  · intro m hm
    have h1 := pmem m hm
    have hb2 : bel (putUnder (without rs n) p r (sub rs n)) n = FM.lift k' u := by
      have := a2.bel
      rw [show ({ y with l := y.l + k' } : Row N).n = n from hyn] at this
      exact this
    have hm1 : m ∉ names (x :: t) := fun q => dj m q h1
    have hm2 : m ∉ x.n :: names t := hm1
    refine ⟨fun e => hm2 (by rw [e, L.nm]; exact List.mem_cons_self), ?_⟩
    show m ∉ names (bel (putUnder (without rs n) p r (sub rs n)) n)
    rw [hb2, lift_names, hun]
    exact fun q => hm2 (List.mem_cons_of_mem _ q)
  · -- as many children as before
    have hk0 : (kidsOf (without rs n) (par rs n)).length = cs1.length + cs2.length := by rw [c0.kidsLen o0.nd, List.length_append]
    have eP : without rs n = (pre' ++ (cs'.take r).flatten) ++ ((cs'.drop r).flatten ++ post') := by
      have q : cs'.flatten = (cs'.take r).flatten ++ (cs'.drop r).flatten := by rw [← List.flatten_append, take_drop]
      conv => lhs; rw [c'.eq, q]
      simp only [List.append_assoc]
    have eP1 : putUnder (without rs n) p r (sub rs n) = (pre' ++ (cs'.take r).flatten) ++ FM.lift k' (sub rs n) ++ ((cs'.drop r).flatten ++ post') := by
      rw [c1.eq]
      simp
    have hch' : Ch k' (FM.lift k' (sub rs n)) := c1.cs _ (by simp)
    have ks := kids_ins (P := pre' ++ (cs'.take r).flatten) (Q := (cs'.drop r).flatten ++ post') hch' (fun q hq => by
      cases hd : cs'.drop r with
      | nil =>
        rw [hd] at hq
        have := c'.po.hd q hq
        omega
      | cons d ds =>
        obtain ⟨z, w, e, hz, _⟩ := (c'.cs d (List.mem_of_mem_drop (by rw [hd]; simp))).ex
        rw [hd, e] at hq
        cases hq
        omega) (by rw [← eP1]; exact o1.nd) (q := par rs n) (by rw [← eP]; exact pmem)
    rw [← eP, ← eP1] at ks
    have kf := ks.filter fun m => decide (m ≠ n)
    have : (kidsOf (without rs n) (par rs n)).filter (fun m => decide (m ≠ n)) = kidsOf (without rs n) (par rs n) := List.filter_eq_self.mpr fun m hm => by
      have h1 := kids_mem hm
      have h2 : m ∉ x.n :: names t := fun q => dj m q h1
      refine decide_eq_true fun e => h2 ?_
      rw [e, L.nm]
      exact List.mem_cons_self
    rw [this] at kf
    have := kf.length_le
    rw [hk0] at this
    rw [L.rank o.nd]
    exact Nat.le_trans (Nat.le_add_right _ _) this
  · show putUnder (without (putUnder (without rs n) p r (sub rs n)) n) (par rs n) (rank rs n) (FM.sub (putUnder (without rs n) p r (sub rs n)) n) = rs
    rw [w2, s2]
    exact hback
/-- THE LAW OF THE FORESTS: each deed that can be done leaves a forest, and the way back can be gone and leads back -/
theorem main {d : D N} (o : Ok nm vv rs) (h : okD nm vv rs d) : Ok nm vv (doneD rs d) ∧ Plays nm vv (doneD rs d) (undoD rs d) rs := by
  cases d with
  | put n v p r => exact main_put o h
  | move n p r => exact main_move o h
  | cut n => exact main_cut o h
  | lift n => exact main_lift o h
  | wrap n v p f l => exact main_wrap o h
  | rev p => exact main_rev o h
  | setv n v => exact main_set o h
theorem bel_len {n : N} (hn : n ∈ names rs) : (bel rs n).length + 1 ≤ rs.length := by
  have h1 : pl rs n < rs.length := by
    have := List.idxOf_lt_length_iff.mpr hn
    unfold names at this
    rw [List.length_map] at this
    exact this
  have h2 := (List.takeWhile_sublist (fun r : Row N => decide (lv rs n < r.l)) (l := rs.drop (pl rs n + 1))).length_le
  rw [List.length_drop] at h2
  show ((rs.drop (pl rs n + 1)).takeWhile _).length + 1 ≤ _
  omega
theorem undo_len {d : D N} (o : Ok nm vv rs) (h : okD nm vv rs d) : (undoD rs d).length ≤ 60 := by
  have hp : ∀ n, n ∈ names rs → (putting rs n).length ≤ 60 := fun n hn => by
    have := bel_len hn
    have := o.len
    unfold putting names
    rw [List.length_map, List.length_cons, List.length_map]
    omega
  cases d with
  | put n v p r => exact (by decide : 1 ≤ 60)
  | move n p r => exact (by decide : 1 ≤ 60)
  | cut n => exact hp n h
  | lift n =>
    show (if (kidsOf rs (some n)).length = 0 then putting rs n else _).length ≤ 60
    split
    · exact hp n h
    · exact (by decide : 1 ≤ 60)
  | wrap n v p f l => exact (by decide : 1 ≤ 60)
  | rev p => exact (by decide : 1 ≤ 60)
  | setv n v => exact (by decide : 1 ≤ 60)
end
end FM
end
section
set_option autoImplicit false
set_option linter.all false
namespace FM
section
variable {N : Type} [DecidableEq N] {rs : Rows N}
theorem at_of {n : N} (st : Steps (-1) rs) (nd : (names rs).Nodup) (hn : n ∈ names rs) : ∃ A X B C, At rs A X B C ∧ X.n = n := by
  obtain ⟨pre, k, cs1, x, t, cs2, post, L⟩ := loc_of st nd hn
  exact ⟨_, x, t, _, L.at_ nd, L.nm⟩
theorem no_of {A R : Rows N} {X : Row N} (nd : (names (A ++ X :: R)).Nodup) : X.n ∉ names A := fun h => by
  rw [names_app, List.nodup_append] at nd
  exact nd.2.2 _ h X.n (by show X.n ∈ X.n :: names R; exact List.mem_cons_self) rfl
/-- a row below n: n is its parent just where it stands one level below -/
theorem bel_par {n : N} {r : Row N} (st : Steps (-1) rs) (nd : (names rs).Nodup) (hn : n ∈ names rs) (hr : r ∈ bel rs n) : par rs r.n = some n ↔ r.l = lv rs n + 1 := by
  obtain ⟨A, X, B, C, a, rfl⟩ := at_of st nd hn
  rw [a.bel] at hr
  rw [a.lv]
  obtain ⟨B1, B2, rfl⟩ := List.append_of_mem hr
  have e : rs = (A ++ X :: B1) ++ r :: (B2 ++ C) := by rw [a.eq]; simp
  have hno : r.n ∉ names (A ++ X :: B1) := no_of (by rw [← e]; exact nd)
  have st2 := st
  rw [e, steps_app] at st2
  have st3 := st2.1
  rw [steps_app] at st3
  have st4 : Steps X.l B1 := st3.2.2.2
  have hlast : r.l ≤ lastL X.l B1 + 1 := by
    have := st2.2.2.1
    rw [lastL_app] at this
    exact this
  have hp : par rs r.n = (ancR (B1.reverse ++ X :: A.reverse) r.l).head? := by
    rw [e, par_at hno]
    congr 1
    rw [List.reverse_append, List.reverse_cons]
    simp
  have hXr : X.l < r.l := a.be r (by simp)
  rw [hp]
  rcases last_below r.l B1 with h | ⟨A1, Y, A2, e2, hY, h2⟩
  · rw [ancR_skip (fun q hq => h q (List.mem_reverse.mp hq))]
    have e3 : ancR (X :: A.reverse) r.l = X.n :: ancR A.reverse X.l := by
      show (if X.l < r.l then _ else _) = _
      rw [if_pos hXr]
    rw [e3]
    refine ⟨fun _ => ?_, fun _ => rfl⟩
    cases B1 with
    | nil =>
      have hlast : r.l ≤ X.l + 1 := hlast
      omega
    | cons b B1 =>
      have h1 := h b List.mem_cons_self
      have h3 := st4.2.1
      omega
  · have e3 : ancR (B1.reverse ++ X :: A.reverse) r.l = Y.n :: ancR (A1.reverse ++ X :: A.reverse) Y.l := by
      rw [e2, List.reverse_append, List.reverse_cons]
      have e4 : A2.reverse ++ (A1.reverse ++ [Y]).reverse.reverse = A2.reverse ++ (A1.reverse ++ [Y]) := by rw [List.reverse_reverse]
      have e5 : A2.reverse ++ [Y] ++ A1.reverse ++ X :: A.reverse = A2.reverse ++ (Y :: (A1.reverse ++ X :: A.reverse)) := by simp
      rw [e5, ancR_skip (fun q hq => h2 q (List.mem_reverse.mp hq))]
      show (if Y.l < r.l then _ else _) = _
      rw [if_pos hY]
    rw [e3]
    have hYX : X.l < Y.l := a.be Y (by rw [e2]; simp)
    have hne : Y.n ≠ X.n := fun q => by
      have nd2 := nd
      rw [a.eq, names_app, List.nodup_append] at nd2
      have nd3 : (X.n :: names (B1 ++ r :: B2 ++ C)).Nodup := nd2.2.1
      rw [List.nodup_cons] at nd3
      refine nd3.1 ?_
      rw [← q, e2]
      exact mem_names (by simp)
    refine ⟨fun h => absurd (Option.some.inj h) hne, fun h => ?_⟩
    omega
/-- a node stands among the children of its parent -/
theorem mem_kids {n : N} (st : Steps (-1) rs) (nd : (names rs).Nodup) (hn : n ∈ names rs) : n ∈ kidsOf rs (par rs n) := by
  obtain ⟨pre, k, cs1, x, t, cs2, post, L⟩ := loc_of st nd hn
  rw [L.ctx.kids nd, ← L.nm]
  rw [List.flatMap_append, List.flatMap_cons]
  exact List.mem_append_right _ (List.mem_append_left _ List.mem_cons_self)
/-- the roots: no line above -/
theorem bel_sub {n : N} : (bel rs n).Sublist rs := ((List.takeWhile_sublist _).trans (List.drop_sublist _ _))
end
end FM
end
section
set_option Elab.async false
set_option linter.all false
set_option maxRecDepth 100000
set_option maxHeartbeats 4000000
namespace K13
open PySem PySem.Spec PyProof.Rows L2
/-- the class at C is an own error class over ValueError, with a dict -/
def oexB (K : PySem.W.Frag) (C : Addr) : Bool := (match K.lookup C with
  | some ⟨.type "type", _, .cls cd, sl⟩ => (match cd.mro, sl.toList with
    | .ref C' :: bm, [_, _, _, _, some (.builtin n), _] => decide (C' = C) && (decide (n = "ValueError.__new__") && (cd.hasDict && (!cd.hasDel && PySem.HandSPX.refsVE bm)))
    | _, _ => false)
  | _ => false) && (decide (PySem.W.findIn K (.ref C) "__setattr__" = some (some (.builtin "object.__setattr__"))) && (decide (PySem.W.subIn K (.ref C) (.type "BaseException") = some true) && (decide (PySem.W.typeIn K (.ref C) = some (.type "type")) && PySem.W.keepIn K (.ref C))))
theorem oexB_ok {K : PySem.W.Frag} {C : Addr} (h : oexB K C = true) : OexC K C := by
  unfold oexB at h
  obtain ⟨h0, h⟩ := He.ba h
  obtain ⟨h1, h⟩ := He.ba h
  obtain ⟨h2, h⟩ := He.ba h
  obtain ⟨h3, h4⟩ := He.ba h
  refine ⟨?_, of_decide_eq_true h1, of_decide_eq_true h2, of_decide_eq_true h3, h4⟩
  split at h0
  · rename_i dd cd sl ho
    split at h0
    · rename_i C' bm k0 k1 k2 k3 n k5 hm hs
      obtain ⟨a1, h0⟩ := He.ba h0
      obtain ⟨a2, h0⟩ := He.ba h0
      obtain ⟨a3, h0⟩ := He.ba h0
      obtain ⟨a4, a5⟩ := He.ba h0
      have b1 := of_decide_eq_true a1
      have b2 := of_decide_eq_true a2
      obtain ⟨nm, bs, mro, ns, qn, hd, sn, sub, ab, col, del⟩ := cd
      dsimp only at hm a3 a4
      have a4 : del = false := by simpa using a4
      subst hm a3 a4 b1 b2
      have hsl : sl = #[k0, k1, k2, k3, some (.builtin "ValueError.__new__"), k5] := by
        obtain ⟨l⟩ := sl
        simp only at hs
        rw [hs]
      subst hsl
      exact ⟨nm, qn, ns, bs, bm, sn, sub, ab, col, dd, k0, k1, k2, k3, k5, ho, a5⟩
    · cases h0
  · cases h0
def mostB (K : PySem.W.Frag) : Bool := match PySem.W.findCls K (.ref (He.ga K "Forest")) (.type "type") "MOST" with
  | some (.val (.int i _)) => decide (i = 60)
  | _ => false
/-! ## the text by places, by a program (gen.py) -/
def top (i : Nat) : Stmt := PySem.Challenge.pw_forestrows_k13_whole_deeds_undone.main.body.getD i (.Pass ⟨0, 0, 0, 0⟩)
abbrev st_is_integer : Stmt := top 7
abbrev N_is_integer : List Str := ["thing"]
theorem sc_is_integer : FnScope N_is_integer ["thing"] (defScope st_is_integer) := ⟨rfl, rfl, rfl, by decide +kernel, rfl, by decide +kernel, by decide +kernel⟩
def d_is_integer : He.DefD := ⟨("is_integer", none), "is_integer", "is_integer", defArgs st_is_integer, defBody st_is_integer, defScope st_is_integer, [], []⟩
abbrev st_is_sequence : Stmt := top 8
abbrev N_is_sequence : List Str := ["thing"]
theorem sc_is_sequence : FnScope N_is_sequence ["thing"] (defScope st_is_sequence) := ⟨rfl, rfl, rfl, by decide +kernel, rfl, by decide +kernel, by decide +kernel⟩
def d_is_sequence : He.DefD := ⟨("is_sequence", none), "is_sequence", "is_sequence", defArgs st_is_sequence, defBody st_is_sequence, defScope st_is_sequence, [], []⟩
abbrev st_is_name : Stmt := top 9
abbrev N_is_name : List Str := ["thing", "sign"]
theorem sc_is_name : FnScope N_is_name ["thing"] (defScope st_is_name) := ⟨rfl, rfl, rfl, by decide +kernel, rfl, by decide +kernel, by decide +kernel⟩
def d_is_name : He.DefD := ⟨("is_name", none), "is_name", "is_name", defArgs st_is_name, defBody st_is_name, defScope st_is_name, [], []⟩
abbrev st_is_value : Stmt := top 10
abbrev N_is_value : List Str := ["thing"]
theorem sc_is_value : FnScope N_is_value ["thing"] (defScope st_is_value) := ⟨rfl, rfl, rfl, by decide +kernel, rfl, by decide +kernel, by decide +kernel⟩
def d_is_value : He.DefD := ⟨("is_value", none), "is_value", "is_value", defArgs st_is_value, defBody st_is_value, defScope st_is_value, [], []⟩
abbrev st_row_fault : Stmt := top 29
abbrev N_row_fault : List Str := ["rows", "place", "row", "name", "value", "level", "other"]
theorem sc_row_fault : FnScope N_row_fault ["rows", "place"] (defScope st_row_fault) := ⟨rfl, rfl, rfl, by decide +kernel, rfl, by decide +kernel, by decide +kernel⟩
def d_row_fault : He.DefD := ⟨("row_fault", none), "row_fault", "row_fault", defArgs st_row_fault, defBody st_row_fault, defScope st_row_fault, [], []⟩
abbrev st_kind_of : Stmt := top 36
abbrev N_kind_of : List Str := ["deed"]
theorem sc_kind_of : FnScope N_kind_of ["deed"] (defScope st_kind_of) := ⟨rfl, rfl, rfl, by decide +kernel, rfl, by decide +kernel, by decide +kernel⟩
def d_kind_of : He.DefD := ⟨("kind_of", none), "kind_of", "kind_of", defArgs st_kind_of, defBody st_kind_of, defScope st_kind_of, [], []⟩
abbrev st_children_of : Stmt := top 37
abbrev N_children_of : List Str := ["forest", "parent"]
theorem sc_children_of : FnScope N_children_of ["forest", "parent"] (defScope st_children_of) := ⟨rfl, rfl, rfl, by decide +kernel, rfl, by decide +kernel, by decide +kernel⟩
def d_children_of : He.DefD := ⟨("children_of", none), "children_of", "children_of", defArgs st_children_of, defBody st_children_of, defScope st_children_of, [], []⟩
abbrev st_check_nodes : Stmt := top 38
abbrev N_check_nodes : List Str := ["forest", "deed"]
theorem sc_check_nodes : FnScope N_check_nodes ["forest", "deed"] (defScope st_check_nodes) := ⟨rfl, rfl, rfl, by decide +kernel, rfl, by decide +kernel, by decide +kernel⟩
def d_check_nodes : He.DefD := ⟨("check_nodes", none), "check_nodes", "check_nodes", defArgs st_check_nodes, defBody st_check_nodes, defScope st_check_nodes, [], []⟩
abbrev st_check_rank : Stmt := top 39
abbrev N_check_rank : List Str := ["forest", "deed", "many", "others", "name"]
theorem sc_check_rank : FnScope N_check_rank ["forest", "deed"] (defScope st_check_rank) := ⟨rfl, rfl, rfl, by decide +kernel, rfl, by decide +kernel, by decide +kernel⟩
def d_check_rank : He.DefD := ⟨("check_rank", none), "check_rank", "check_rank", defArgs st_check_rank, defBody st_check_rank, defScope st_check_rank, [], []⟩
abbrev st_check_deed : Stmt := top 40
abbrev N_check_deed : List Str := ["forest", "deed"]
theorem sc_check_deed : FnScope N_check_deed ["forest", "deed"] (defScope st_check_deed) := ⟨rfl, rfl, rfl, by decide +kernel, rfl, by decide +kernel, by decide +kernel⟩
def d_check_deed : He.DefD := ⟨("check_deed", none), "check_deed", "check_deed", defArgs st_check_deed, defBody st_check_deed, defScope st_check_deed, [], []⟩
abbrev st_subtree : Stmt := top 41
abbrev N_subtree : List Str := ["forest", "name", "place", "level", "rows", "one", "value", "height"]
theorem sc_subtree : FnScope N_subtree ["forest", "name"] (defScope st_subtree) := ⟨rfl, rfl, rfl, by decide +kernel, rfl, by decide +kernel, by decide +kernel⟩
def d_subtree : He.DefD := ⟨("subtree", none), "subtree", "subtree", defArgs st_subtree, defBody st_subtree, defScope st_subtree, [], []⟩
abbrev st_subtrees : Stmt := top 42
abbrev N_subtrees : List Str := ["forest", "parent", "name"]
theorem sc_subtrees : FnScope N_subtrees ["forest", "parent"] (defScope st_subtrees) := ⟨rfl, rfl, rfl, by decide +kernel, rfl, by decide +kernel, by decide +kernel⟩
def d_subtrees : He.DefD := ⟨("subtrees", none), "subtrees", "subtrees", defArgs st_subtrees, defBody st_subtrees, defScope st_subtrees, [], []⟩
abbrev st_raised : Stmt := top 43
abbrev N_raised : List Str := ["rows", "level", "name", "value", "height"]
theorem sc_raised : FnScope N_raised ["rows", "level"] (defScope st_raised) := ⟨rfl, rfl, rfl, by decide +kernel, rfl, by decide +kernel, by decide +kernel⟩
def d_raised : He.DefD := ⟨("raised", none), "raised", "raised", defArgs st_raised, defBody st_raised, defScope st_raised, [], []⟩
abbrev st_with_subtrees : Stmt := top 44
abbrev N_with_subtrees : List Str := ["forest", "parent", "trees", "place", "level", "inner", "rows", "row"]
theorem sc_with_subtrees : FnScope N_with_subtrees ["forest", "parent", "trees"] (defScope st_with_subtrees) := ⟨rfl, rfl, rfl, by decide +kernel, rfl, by decide +kernel, by decide +kernel⟩
def d_with_subtrees : He.DefD := ⟨("with_subtrees", none), "with_subtrees", "with_subtrees", defArgs st_with_subtrees, defBody st_with_subtrees, defScope st_with_subtrees, [], []⟩
abbrev st_without_subtree : Stmt := top 45
abbrev N_without_subtree : List Str := ["forest", "name", "place"]
theorem sc_without_subtree : FnScope N_without_subtree ["forest", "name"] (defScope st_without_subtree) := ⟨rfl, rfl, rfl, by decide +kernel, rfl, by decide +kernel, by decide +kernel⟩
def d_without_subtree : He.DefD := ⟨("without_subtree", none), "without_subtree", "without_subtree", defArgs st_without_subtree, defBody st_without_subtree, defScope st_without_subtree, [], []⟩
abbrev st_put_under : Stmt := top 46
abbrev N_put_under : List Str := ["forest", "parent", "rank", "rows", "trees"]
theorem sc_put_under : FnScope N_put_under ["forest", "parent", "rank", "rows"] (defScope st_put_under) := ⟨rfl, rfl, rfl, by decide +kernel, rfl, by decide +kernel, by decide +kernel⟩
def d_put_under : He.DefD := ⟨("put_under", none), "put_under", "put_under", defArgs st_put_under, defBody st_put_under, defScope st_put_under, [], []⟩
abbrev st_lifted : Stmt := top 47
abbrev N_lifted : List Str := ["forest", "name", "place", "size", "rows"]
theorem sc_lifted : FnScope N_lifted ["forest", "name"] (defScope st_lifted) := ⟨rfl, rfl, rfl, by decide +kernel, rfl, by decide +kernel, by decide +kernel⟩
def d_lifted : He.DefD := ⟨("lifted", none), "lifted", "lifted", defArgs st_lifted, defBody st_lifted, defScope st_lifted, [], []⟩
abbrev st_wrapped : Stmt := top 48
abbrev N_wrapped : List Str := ["forest", "deed", "trees", "inner", "rows", "row"]
theorem sc_wrapped : FnScope N_wrapped ["forest", "deed"] (defScope st_wrapped) := ⟨rfl, rfl, rfl, by decide +kernel, rfl, by decide +kernel, by decide +kernel⟩
def d_wrapped : He.DefD := ⟨("wrapped", none), "wrapped", "wrapped", defArgs st_wrapped, defBody st_wrapped, defScope st_wrapped, [], []⟩
abbrev st_done : Stmt := top 49
abbrev N_done : List Str := ["forest", "deed", "name", "value", "level"]
theorem sc_done : FnScope N_done ["forest", "deed"] (defScope st_done) := ⟨rfl, rfl, rfl, by decide +kernel, rfl, by decide +kernel, by decide +kernel⟩
def d_done : He.DefD := ⟨("done", none), "done", "done", defArgs st_done, defBody st_done, defScope st_done, [], []⟩
abbrev st_played : Stmt := top 50
abbrev N_played : List Str := ["forest", "deeds", "found", "place", "deed", "error"]
theorem sc_played : FnScope N_played ["forest", "deeds"] (defScope st_played) := ⟨rfl, rfl, rfl, by decide +kernel, rfl, by decide +kernel, by decide +kernel⟩
def d_played : He.DefD := ⟨("played", none), "played", "played", defArgs st_played, defBody st_played, defScope st_played, [], []⟩
abbrev st_putting : Stmt := top 51
abbrev N_putting : List Str := ["forest", "name", "found", "other"]
theorem sc_putting : FnScope N_putting ["forest", "name"] (defScope st_putting) := ⟨rfl, rfl, rfl, by decide +kernel, rfl, by decide +kernel, by decide +kernel⟩
def d_putting : He.DefD := ⟨("putting", none), "putting", "putting", defArgs st_putting, defBody st_putting, defScope st_putting, [], []⟩
abbrev st_undoing : Stmt := top 52
abbrev N_undoing : List Str := ["forest", "deed", "parent", "value", "many", "rank"]
theorem sc_undoing : FnScope N_undoing ["forest", "deed"] (defScope st_undoing) := ⟨rfl, rfl, rfl, by decide +kernel, rfl, by decide +kernel, by decide +kernel⟩
def d_undoing : He.DefD := ⟨("undoing", none), "undoing", "undoing", defArgs st_undoing, defBody st_undoing, defScope st_undoing, [], []⟩
abbrev st_law_well : Stmt := top 54
abbrev N_law_well : List Str := ["_law_cell"]
theorem sc_law_well : FnScope N_law_well ["_law_cell"] (defScope st_law_well) := ⟨rfl, rfl, rfl, by decide +kernel, rfl, by decide +kernel, by decide +kernel⟩
def d_law_well : He.DefD := ⟨("_law_well", none), "_law_well", "_law_well", defArgs st_law_well, defBody st_law_well, defScope st_law_well, [], []⟩
abbrev st_law_draw : Stmt := top 55
abbrev N_law_draw : List Str := ["_law_well_here", "_law_many", "_law_digit", "_law_mixed"]
theorem sc_law_draw : FnScope N_law_draw ["_law_well_here", "_law_many"] (defScope st_law_draw) := ⟨rfl, rfl, rfl, by decide +kernel, rfl, by decide +kernel, by decide +kernel⟩
def d_law_draw : He.DefD := ⟨("_law_draw", none), "_law_draw", "_law_draw", defArgs st_law_draw, defBody st_law_draw, defScope st_law_draw, [], []⟩
abbrev st_law_one : Stmt := top 56
abbrev N_law_one : List Str := ["_law_well_here", "_law_some"]
theorem sc_law_one : FnScope N_law_one ["_law_well_here", "_law_some"] (defScope st_law_one) := ⟨rfl, rfl, rfl, by decide +kernel, rfl, by decide +kernel, by decide +kernel⟩
def d_law_one : He.DefD := ⟨("_law_one", none), "_law_one", "_law_one", defArgs st_law_one, defBody st_law_one, defScope st_law_one, [], []⟩
abbrev st_law_names : Stmt := top 57
abbrev N_law_names : List Str := ["_law_well_here", "_law_many", "_law_letters", "_law_found", "_law_k", "_law_name", "_law_turn", "_law_elder", "_law_at"]
theorem sc_law_names : FnScope N_law_names ["_law_well_here", "_law_many"] (defScope st_law_names) := ⟨rfl, rfl, rfl, by decide +kernel, rfl, by decide +kernel, by decide +kernel⟩
def d_law_names : He.DefD := ⟨("_law_names", none), "_law_names", "_law_names", defArgs st_law_names, defBody st_law_names, defScope st_law_names, [], []⟩
abbrev st_law_value : Stmt := top 58
abbrev N_law_value : List Str := ["_law_well_here", "_law_great"]
theorem sc_law_value : FnScope N_law_value ["_law_well_here"] (defScope st_law_value) := ⟨rfl, rfl, rfl, by decide +kernel, rfl, by decide +kernel, by decide +kernel⟩
def d_law_value : He.DefD := ⟨("_law_value", none), "_law_value", "_law_value", defArgs st_law_value, defBody st_law_value, defScope st_law_value, [], []⟩
abbrev st_law_levels : Stmt := top 59
abbrev N_law_levels : List Str := ["_law_well_here", "_law_many", "_law_found", "_law_style", "_law_k", "_law_most", "_law_level"]
theorem sc_law_levels : FnScope N_law_levels ["_law_well_here", "_law_many"] (defScope st_law_levels) := ⟨rfl, rfl, rfl, by decide +kernel, rfl, by decide +kernel, by decide +kernel⟩
def d_law_levels : He.DefD := ⟨("_law_levels", none), "_law_levels", "_law_levels", defArgs st_law_levels, defBody st_law_levels, defScope st_law_levels, [], []⟩
abbrev st_law_rows : Stmt := top 60
abbrev N_law_rows : List Str := ["_law_well_here", "_law_most", "_law_many", "_law_names_here", "_law_levels_here", "_law_k"]
theorem sc_law_rows : FnScope N_law_rows ["_law_well_here", "_law_most"] (defScope st_law_rows) := ⟨rfl, rfl, rfl, by decide +kernel, rfl, by decide +kernel, by decide +kernel⟩
def d_law_rows : He.DefD := ⟨("_law_rows", none), "_law_rows", "_law_rows", defArgs st_law_rows, defBody st_law_rows, defScope st_law_rows, [], []⟩
abbrev st_law_new_name : Stmt := top 61
abbrev N_law_new_name : List Str := ["_law_well_here", "_law_names_here", "_law_spare", "_law_some", "_law_k", "_law_name"]
theorem sc_law_new_name : FnScope N_law_new_name ["_law_well_here", "_law_names_here"] (defScope st_law_new_name) := ⟨rfl, rfl, rfl, by decide +kernel, rfl, by decide +kernel, by decide +kernel⟩
def d_law_new_name : He.DefD := ⟨("_law_new_name", none), "_law_new_name", "_law_new_name", defArgs st_law_new_name, defBody st_law_new_name, defScope st_law_new_name, [], []⟩
abbrev st_law_deed : Stmt := top 62
abbrev N_law_deed : List Str := ["_law_kind", "_law_fields"]
theorem sc_law_deed : FnScope N_law_deed ["_law_kind", "_law_fields"] (defScope st_law_deed) := ⟨rfl, rfl, rfl, by decide +kernel, rfl, by decide +kernel, by decide +kernel⟩
def d_law_deed : He.DefD := ⟨("_law_deed", none), "_law_deed", "_law_deed", defArgs st_law_deed, defBody st_law_deed, defScope st_law_deed, [], []⟩
abbrev st_law_subtree : Stmt := top 63
abbrev N_law_subtree : List Str := ["_law_rows_here", "_law_name", "_law_place", "_law_found", "_law_row"]
theorem sc_law_subtree : FnScope N_law_subtree ["_law_rows_here", "_law_name"] (defScope st_law_subtree) := ⟨rfl, rfl, rfl, by decide +kernel, rfl, by decide +kernel, by decide +kernel⟩
def d_law_subtree : He.DefD := ⟨("_law_subtree", none), "_law_subtree", "_law_subtree", defArgs st_law_subtree, defBody st_law_subtree, defScope st_law_subtree, [], []⟩
abbrev st_law_children : Stmt := top 64
abbrev N_law_children : List Str := ["_law_rows_here", "_law_parent", "_law_level", "_law_below", "_law_row"]
theorem sc_law_children : FnScope N_law_children ["_law_rows_here", "_law_parent"] (defScope st_law_children) := ⟨rfl, rfl, rfl, by decide +kernel, rfl, by decide +kernel, by decide +kernel⟩
def d_law_children : He.DefD := ⟨("_law_children", none), "_law_children", "_law_children", defArgs st_law_children, defBody st_law_children, defScope st_law_children, [], []⟩
abbrev st_law_drawn : Stmt := top 65
abbrev N_law_drawn : List Str := ["_law_well_here", "_law_rows_here", "_law_names_here", "_law_kind", "_law_name", "_law_parent", "_law_below", "_law_some", "_law_first", "_law_last", "_law_row", "_law_one_here"]
theorem sc_law_drawn : FnScope N_law_drawn ["_law_well_here", "_law_rows_here"] (defScope st_law_drawn) := ⟨rfl, rfl, rfl, by decide +kernel, rfl, by decide +kernel, by decide +kernel⟩
def d_law_drawn : He.DefD := ⟨("_law_drawn", none), "_law_drawn", "_law_drawn", defArgs st_law_drawn, defBody st_law_drawn, defScope st_law_drawn, [], []⟩
abbrev st_law_why : Stmt := top 66
abbrev N_law_why : List Str := ["_law_act", "e"]
theorem sc_law_why : FnScope N_law_why ["_law_act"] (defScope st_law_why) := ⟨rfl, rfl, rfl, by decide +kernel, rfl, by decide +kernel, by decide +kernel⟩
def d_law_why : He.DefD := ⟨("_law_why", none), "_law_why", "_law_why", defArgs st_law_why, defBody st_law_why, defScope st_law_why, [], []⟩
abbrev st_law_back_right : Stmt := top 67
abbrev N_law_back_right : List Str := ["_law_forest_so", "_law_deed_so", "_law_ahead", "_law_back", "_law_behind", "_law_told", "_law_again"]
theorem sc_law_back_right : FnScope N_law_back_right ["_law_forest_so", "_law_deed_so"] (defScope st_law_back_right) := ⟨rfl, rfl, rfl, by decide +kernel, rfl, by decide +kernel, by decide +kernel⟩
def d_law_back_right : He.DefD := ⟨("_law_back_right", none), "_law_back_right", "_law_back_right", defArgs st_law_back_right, defBody st_law_back_right, defScope st_law_back_right, [], []⟩
abbrev st_law : Stmt := top 68
abbrev N_law : List Str := ["_law_script", "_law_cell", "_law_well_here", "_law_rows_here", "_law_forest_so", "_law_turn", "_law_kind", "_law_fields", "_law_deed_so", "_law_odd", "_law_wide", "_law_k"]
theorem sc_law : FnScope N_law ["_law_script"] (defScope st_law) := ⟨rfl, rfl, rfl, by decide +kernel, rfl, by decide +kernel, by decide +kernel⟩
def d_law : He.DefD := ⟨("law", none), "law", "law", defArgs st_law, defBody st_law, defScope st_law, [], []⟩
abbrev st_F_init_ : Stmt := inClass (top 30) 1
abbrev N_F_init_ : List Str := ["self", "rows", "place", "why", "row"]
theorem sc_F_init_ : FnScope N_F_init_ ["self", "rows"] (defScope st_F_init_) := ⟨rfl, rfl, rfl, by decide +kernel, rfl, by decide +kernel, by decide +kernel⟩
def d_F_init_ : He.DefD := ⟨("Forest", some "__init__"), "__init__", "Forest.__init__", defArgs st_F_init_, defBody st_F_init_, defScope st_F_init_, [], []⟩
abbrev st_F_eq_ : Stmt := inClass (top 30) 2
abbrev N_F_eq_ : List Str := ["self", "other"]
theorem sc_F_eq_ : FnScope N_F_eq_ ["self", "other"] (defScope st_F_eq_) := ⟨rfl, rfl, rfl, by decide +kernel, rfl, by decide +kernel, by decide +kernel⟩
def d_F_eq_ : He.DefD := ⟨("Forest", some "__eq__"), "__eq__", "Forest.__eq__", defArgs st_F_eq_, defBody st_F_eq_, defScope st_F_eq_, [], []⟩
abbrev st_F_len_ : Stmt := inClass (top 30) 3
abbrev N_F_len_ : List Str := ["self"]
theorem sc_F_len_ : FnScope N_F_len_ ["self"] (defScope st_F_len_) := ⟨rfl, rfl, rfl, by decide +kernel, rfl, by decide +kernel, by decide +kernel⟩
def d_F_len_ : He.DefD := ⟨("Forest", some "__len__"), "__len__", "Forest.__len__", defArgs st_F_len_, defBody st_F_len_, defScope st_F_len_, [], []⟩
abbrev st_F_names : Stmt := inClass (top 30) 7
abbrev N_F_names : List Str := ["self"]
theorem sc_F_names : FnScope N_F_names ["self"] (defScope st_F_names) := ⟨rfl, rfl, rfl, by decide +kernel, rfl, by decide +kernel, by decide +kernel⟩
def d_F_names : He.DefD := ⟨("Forest", some "names"), "names", "Forest.names", defArgs st_F_names, defBody st_F_names, defScope st_F_names, [], []⟩
abbrev st_F_has_node : Stmt := inClass (top 30) 8
abbrev N_F_has_node : List Str := ["self", "name"]
theorem sc_F_has_node : FnScope N_F_has_node ["self", "name"] (defScope st_F_has_node) := ⟨rfl, rfl, rfl, by decide +kernel, rfl, by decide +kernel, by decide +kernel⟩
def d_F_has_node : He.DefD := ⟨("Forest", some "has_node"), "has_node", "Forest.has_node", defArgs st_F_has_node, defBody st_F_has_node, defScope st_F_has_node, [], []⟩
abbrev st_F_worth : Stmt := inClass (top 30) 9
abbrev N_F_worth : List Str := ["self", "name"]
theorem sc_F_worth : FnScope N_F_worth ["self", "name"] (defScope st_F_worth) := ⟨rfl, rfl, rfl, by decide +kernel, rfl, by decide +kernel, by decide +kernel⟩
def d_F_worth : He.DefD := ⟨("Forest", some "worth"), "worth", "Forest.worth", defArgs st_F_worth, defBody st_F_worth, defScope st_F_worth, [], []⟩
abbrev st_F_line_to : Stmt := inClass (top 30) 10
abbrev N_F_line_to : List Str := ["self", "name", "place", "level", "found", "other", "value", "height"]
theorem sc_F_line_to : FnScope N_F_line_to ["self", "name"] (defScope st_F_line_to) := ⟨rfl, rfl, rfl, by decide +kernel, rfl, by decide +kernel, by decide +kernel⟩
def d_F_line_to : He.DefD := ⟨("Forest", some "line_to"), "line_to", "Forest.line_to", defArgs st_F_line_to, defBody st_F_line_to, defScope st_F_line_to, [], []⟩
abbrev st_F_below : Stmt := inClass (top 30) 11
abbrev N_F_below : List Str := ["self", "name", "place", "found", "level", "other", "value", "height"]
theorem sc_F_below : FnScope N_F_below ["self", "name"] (defScope st_F_below) := ⟨rfl, rfl, rfl, by decide +kernel, rfl, by decide +kernel, by decide +kernel⟩
def d_F_below : He.DefD := ⟨("Forest", some "below"), "below", "Forest.below", defArgs st_F_below, defBody st_F_below, defScope st_F_below, [], []⟩
abbrev st_F_check_nodes : Stmt := inClass (top 27) 2
abbrev N_F_check_nodes : List Str := ["self", "names", "name"]
theorem sc_F_check_nodes : FnScope N_F_check_nodes ["self", "names"] (defScope st_F_check_nodes) := ⟨rfl, rfl, rfl, by decide +kernel, rfl, by decide +kernel, by decide +kernel⟩
def d_F_check_nodes : He.DefD := ⟨("Forest", some "check_nodes"), "check_nodes", "Asked.check_nodes", defArgs st_F_check_nodes, defBody st_F_check_nodes, defScope st_F_check_nodes, [], []⟩
abbrev st_F_descendants_of : Stmt := inClass (top 27) 7
abbrev N_F_descendants_of : List Str := ["self", "name"]
theorem sc_F_descendants_of : FnScope N_F_descendants_of ["self", "name"] (defScope st_F_descendants_of) := ⟨rfl, rfl, rfl, by decide +kernel, rfl, by decide +kernel, by decide +kernel⟩
def d_F_descendants_of : He.DefD := ⟨("Forest", some "descendants_of"), "descendants_of", "Asked.descendants_of", defArgs st_F_descendants_of, defBody st_F_descendants_of, defScope st_F_descendants_of, [], []⟩
abbrev st_F_parent_of : Stmt := inClass (top 27) 8
abbrev N_F_parent_of : List Str := ["self", "name"]
theorem sc_F_parent_of : FnScope N_F_parent_of ["self", "name"] (defScope st_F_parent_of) := ⟨rfl, rfl, rfl, by decide +kernel, rfl, by decide +kernel, by decide +kernel⟩
def d_F_parent_of : He.DefD := ⟨("Forest", some "parent_of"), "parent_of", "Asked.parent_of", defArgs st_F_parent_of, defBody st_F_parent_of, defScope st_F_parent_of, [], []⟩
abbrev st_F_level_of : Stmt := inClass (top 27) 9
abbrev N_F_level_of : List Str := ["self", "name"]
theorem sc_F_level_of : FnScope N_F_level_of ["self", "name"] (defScope st_F_level_of) := ⟨rfl, rfl, rfl, by decide +kernel, rfl, by decide +kernel, by decide +kernel⟩
def d_F_level_of : He.DefD := ⟨("Forest", some "level_of"), "level_of", "Asked.level_of", defArgs st_F_level_of, defBody st_F_level_of, defScope st_F_level_of, [], []⟩
abbrev st_F_value_of : Stmt := inClass (top 27) 10
abbrev N_F_value_of : List Str := ["self", "name"]
theorem sc_F_value_of : FnScope N_F_value_of ["self", "name"] (defScope st_F_value_of) := ⟨rfl, rfl, rfl, by decide +kernel, rfl, by decide +kernel, by decide +kernel⟩
def d_F_value_of : He.DefD := ⟨("Forest", some "value_of"), "value_of", "Asked.value_of", defArgs st_F_value_of, defBody st_F_value_of, defScope st_F_value_of, [], []⟩
abbrev st_F_roots : Stmt := inClass (top 27) 11
abbrev N_F_roots : List Str := ["self", "name"]
theorem sc_F_roots : FnScope N_F_roots ["self"] (defScope st_F_roots) := ⟨rfl, rfl, rfl, by decide +kernel, rfl, by decide +kernel, by decide +kernel⟩
def d_F_roots : He.DefD := ⟨("Forest", some "roots"), "roots", "Asked.roots", defArgs st_F_roots, defBody st_F_roots, defScope st_F_roots, [], []⟩
abbrev st_F_children_of : Stmt := inClass (top 27) 12
abbrev N_F_children_of : List Str := ["self", "name", "other"]
theorem sc_F_children_of : FnScope N_F_children_of ["self", "name"] (defScope st_F_children_of) := ⟨rfl, rfl, rfl, by decide +kernel, rfl, by decide +kernel, by decide +kernel⟩
def d_F_children_of : He.DefD := ⟨("Forest", some "children_of"), "children_of", "Asked.children_of", defArgs st_F_children_of, defBody st_F_children_of, defScope st_F_children_of, [], []⟩
abbrev st_F_rank_of : Stmt := inClass (top 27) 13
abbrev N_F_rank_of : List Str := ["self", "name", "parent", "siblings"]
theorem sc_F_rank_of : FnScope N_F_rank_of ["self", "name"] (defScope st_F_rank_of) := ⟨rfl, rfl, rfl, by decide +kernel, rfl, by decide +kernel, by decide +kernel⟩
def d_F_rank_of : He.DefD := ⟨("Forest", some "rank_of"), "rank_of", "Asked.rank_of", defArgs st_F_rank_of, defBody st_F_rank_of, defScope st_F_rank_of, [], []⟩
abbrev st_F_size_of : Stmt := inClass (top 27) 14
abbrev N_F_size_of : List Str := ["self", "name"]
theorem sc_F_size_of : FnScope N_F_size_of ["self", "name"] (defScope st_F_size_of) := ⟨rfl, rfl, rfl, by decide +kernel, rfl, by decide +kernel, by decide +kernel⟩
def d_F_size_of : He.DefD := ⟨("Forest", some "size_of"), "size_of", "Asked.size_of", defArgs st_F_size_of, defBody st_F_size_of, defScope st_F_size_of, [], []⟩
abbrev st_F_place_of : Stmt := inClass (top 27) 18
abbrev N_F_place_of : List Str := ["self", "name"]
theorem sc_F_place_of : FnScope N_F_place_of ["self", "name"] (defScope st_F_place_of) := ⟨rfl, rfl, rfl, by decide +kernel, rfl, by decide +kernel, by decide +kernel⟩
def d_F_place_of : He.DefD := ⟨("Forest", some "place_of"), "place_of", "Asked.place_of", defArgs st_F_place_of, defBody st_F_place_of, defScope st_F_place_of, [], []⟩
abbrev st_Put_init_ : Stmt := inClass (top 12) 0
abbrev N_Put_init_ : List Str := ["self", "name", "value", "parent", "rank"]
theorem sc_Put_init_ : FnScope N_Put_init_ ["self", "name", "value", "parent", "rank"] (defScope st_Put_init_) := ⟨rfl, rfl, rfl, by decide +kernel, rfl, by decide +kernel, by decide +kernel⟩
def d_Put_init_ : He.DefD := ⟨("Put", some "__init__"), "__init__", "Put.__init__", defArgs st_Put_init_, defBody st_Put_init_, defScope st_Put_init_, [], []⟩
abbrev st_Put_class_name : Stmt := inClass (top 12) 1
abbrev N_Put_class_name : List Str := ["self"]
theorem sc_Put_class_name : FnScope N_Put_class_name ["self"] (defScope st_Put_class_name) := ⟨rfl, rfl, rfl, by decide +kernel, rfl, by decide +kernel, by decide +kernel⟩
def d_Put_class_name : He.DefD := ⟨("Put", some "class_name"), "class_name", "Put.class_name", defArgs st_Put_class_name, defBody st_Put_class_name, defScope st_Put_class_name, [], []⟩
abbrev st_Put_facts : Stmt := inClass (top 12) 2
abbrev N_Put_facts : List Str := ["self"]
theorem sc_Put_facts : FnScope N_Put_facts ["self"] (defScope st_Put_facts) := ⟨rfl, rfl, rfl, by decide +kernel, rfl, by decide +kernel, by decide +kernel⟩
def d_Put_facts : He.DefD := ⟨("Put", some "facts"), "facts", "Put.facts", defArgs st_Put_facts, defBody st_Put_facts, defScope st_Put_facts, [], []⟩
abbrev st_Put_eq_ : Stmt := inClass (top 6) 2
abbrev N_Put_eq_ : List Str := ["self", "other"]
theorem sc_Put_eq_ : FnScope N_Put_eq_ ["self", "other"] (defScope st_Put_eq_) := ⟨rfl, rfl, rfl, by decide +kernel, rfl, by decide +kernel, by decide +kernel⟩
def d_Put_eq_ : He.DefD := ⟨("Put", some "__eq__"), "__eq__", "Thing.__eq__", defArgs st_Put_eq_, defBody st_Put_eq_, defScope st_Put_eq_, [], []⟩
abbrev st_Move_init_ : Stmt := inClass (top 13) 0
abbrev N_Move_init_ : List Str := ["self", "name", "parent", "rank"]
theorem sc_Move_init_ : FnScope N_Move_init_ ["self", "name", "parent", "rank"] (defScope st_Move_init_) := ⟨rfl, rfl, rfl, by decide +kernel, rfl, by decide +kernel, by decide +kernel⟩
def d_Move_init_ : He.DefD := ⟨("Move", some "__init__"), "__init__", "Move.__init__", defArgs st_Move_init_, defBody st_Move_init_, defScope st_Move_init_, [], []⟩
abbrev st_Move_class_name : Stmt := inClass (top 13) 1
abbrev N_Move_class_name : List Str := ["self"]
theorem sc_Move_class_name : FnScope N_Move_class_name ["self"] (defScope st_Move_class_name) := ⟨rfl, rfl, rfl, by decide +kernel, rfl, by decide +kernel, by decide +kernel⟩
def d_Move_class_name : He.DefD := ⟨("Move", some "class_name"), "class_name", "Move.class_name", defArgs st_Move_class_name, defBody st_Move_class_name, defScope st_Move_class_name, [], []⟩
abbrev st_Move_facts : Stmt := inClass (top 13) 2
abbrev N_Move_facts : List Str := ["self"]
theorem sc_Move_facts : FnScope N_Move_facts ["self"] (defScope st_Move_facts) := ⟨rfl, rfl, rfl, by decide +kernel, rfl, by decide +kernel, by decide +kernel⟩
def d_Move_facts : He.DefD := ⟨("Move", some "facts"), "facts", "Move.facts", defArgs st_Move_facts, defBody st_Move_facts, defScope st_Move_facts, [], []⟩
abbrev st_Move_eq_ : Stmt := inClass (top 6) 2
abbrev N_Move_eq_ : List Str := ["self", "other"]
theorem sc_Move_eq_ : FnScope N_Move_eq_ ["self", "other"] (defScope st_Move_eq_) := ⟨rfl, rfl, rfl, by decide +kernel, rfl, by decide +kernel, by decide +kernel⟩
def d_Move_eq_ : He.DefD := ⟨("Move", some "__eq__"), "__eq__", "Thing.__eq__", defArgs st_Move_eq_, defBody st_Move_eq_, defScope st_Move_eq_, [], []⟩
abbrev st_Cut_init_ : Stmt := inClass (top 14) 0
abbrev N_Cut_init_ : List Str := ["self", "name"]
theorem sc_Cut_init_ : FnScope N_Cut_init_ ["self", "name"] (defScope st_Cut_init_) := ⟨rfl, rfl, rfl, by decide +kernel, rfl, by decide +kernel, by decide +kernel⟩
def d_Cut_init_ : He.DefD := ⟨("Cut", some "__init__"), "__init__", "Cut.__init__", defArgs st_Cut_init_, defBody st_Cut_init_, defScope st_Cut_init_, [], []⟩
abbrev st_Cut_class_name : Stmt := inClass (top 14) 1
abbrev N_Cut_class_name : List Str := ["self"]
theorem sc_Cut_class_name : FnScope N_Cut_class_name ["self"] (defScope st_Cut_class_name) := ⟨rfl, rfl, rfl, by decide +kernel, rfl, by decide +kernel, by decide +kernel⟩
def d_Cut_class_name : He.DefD := ⟨("Cut", some "class_name"), "class_name", "Cut.class_name", defArgs st_Cut_class_name, defBody st_Cut_class_name, defScope st_Cut_class_name, [], []⟩
abbrev st_Cut_facts : Stmt := inClass (top 14) 2
abbrev N_Cut_facts : List Str := ["self"]
theorem sc_Cut_facts : FnScope N_Cut_facts ["self"] (defScope st_Cut_facts) := ⟨rfl, rfl, rfl, by decide +kernel, rfl, by decide +kernel, by decide +kernel⟩
def d_Cut_facts : He.DefD := ⟨("Cut", some "facts"), "facts", "Cut.facts", defArgs st_Cut_facts, defBody st_Cut_facts, defScope st_Cut_facts, [], []⟩
abbrev st_Cut_eq_ : Stmt := inClass (top 6) 2
abbrev N_Cut_eq_ : List Str := ["self", "other"]
theorem sc_Cut_eq_ : FnScope N_Cut_eq_ ["self", "other"] (defScope st_Cut_eq_) := ⟨rfl, rfl, rfl, by decide +kernel, rfl, by decide +kernel, by decide +kernel⟩
def d_Cut_eq_ : He.DefD := ⟨("Cut", some "__eq__"), "__eq__", "Thing.__eq__", defArgs st_Cut_eq_, defBody st_Cut_eq_, defScope st_Cut_eq_, [], []⟩
abbrev st_Lift_init_ : Stmt := inClass (top 15) 0
abbrev N_Lift_init_ : List Str := ["self", "name"]
theorem sc_Lift_init_ : FnScope N_Lift_init_ ["self", "name"] (defScope st_Lift_init_) := ⟨rfl, rfl, rfl, by decide +kernel, rfl, by decide +kernel, by decide +kernel⟩
def d_Lift_init_ : He.DefD := ⟨("Lift", some "__init__"), "__init__", "Lift.__init__", defArgs st_Lift_init_, defBody st_Lift_init_, defScope st_Lift_init_, [], []⟩
abbrev st_Lift_class_name : Stmt := inClass (top 15) 1
abbrev N_Lift_class_name : List Str := ["self"]
theorem sc_Lift_class_name : FnScope N_Lift_class_name ["self"] (defScope st_Lift_class_name) := ⟨rfl, rfl, rfl, by decide +kernel, rfl, by decide +kernel, by decide +kernel⟩
def d_Lift_class_name : He.DefD := ⟨("Lift", some "class_name"), "class_name", "Lift.class_name", defArgs st_Lift_class_name, defBody st_Lift_class_name, defScope st_Lift_class_name, [], []⟩
abbrev st_Lift_facts : Stmt := inClass (top 15) 2
abbrev N_Lift_facts : List Str := ["self"]
theorem sc_Lift_facts : FnScope N_Lift_facts ["self"] (defScope st_Lift_facts) := ⟨rfl, rfl, rfl, by decide +kernel, rfl, by decide +kernel, by decide +kernel⟩
def d_Lift_facts : He.DefD := ⟨("Lift", some "facts"), "facts", "Lift.facts", defArgs st_Lift_facts, defBody st_Lift_facts, defScope st_Lift_facts, [], []⟩
abbrev st_Lift_eq_ : Stmt := inClass (top 6) 2
abbrev N_Lift_eq_ : List Str := ["self", "other"]
theorem sc_Lift_eq_ : FnScope N_Lift_eq_ ["self", "other"] (defScope st_Lift_eq_) := ⟨rfl, rfl, rfl, by decide +kernel, rfl, by decide +kernel, by decide +kernel⟩
def d_Lift_eq_ : He.DefD := ⟨("Lift", some "__eq__"), "__eq__", "Thing.__eq__", defArgs st_Lift_eq_, defBody st_Lift_eq_, defScope st_Lift_eq_, [], []⟩
abbrev st_Wrap_init_ : Stmt := inClass (top 16) 0
abbrev N_Wrap_init_ : List Str := ["self", "name", "value", "parent", "first", "last"]
theorem sc_Wrap_init_ : FnScope N_Wrap_init_ ["self", "name", "value", "parent", "first", "last"] (defScope st_Wrap_init_) := ⟨rfl, rfl, rfl, by decide +kernel, rfl, by decide +kernel, by decide +kernel⟩
def d_Wrap_init_ : He.DefD := ⟨("Wrap", some "__init__"), "__init__", "Wrap.__init__", defArgs st_Wrap_init_, defBody st_Wrap_init_, defScope st_Wrap_init_, [], []⟩
abbrev st_Wrap_class_name : Stmt := inClass (top 16) 1
abbrev N_Wrap_class_name : List Str := ["self"]
theorem sc_Wrap_class_name : FnScope N_Wrap_class_name ["self"] (defScope st_Wrap_class_name) := ⟨rfl, rfl, rfl, by decide +kernel, rfl, by decide +kernel, by decide +kernel⟩
def d_Wrap_class_name : He.DefD := ⟨("Wrap", some "class_name"), "class_name", "Wrap.class_name", defArgs st_Wrap_class_name, defBody st_Wrap_class_name, defScope st_Wrap_class_name, [], []⟩
abbrev st_Wrap_facts : Stmt := inClass (top 16) 2
abbrev N_Wrap_facts : List Str := ["self"]
theorem sc_Wrap_facts : FnScope N_Wrap_facts ["self"] (defScope st_Wrap_facts) := ⟨rfl, rfl, rfl, by decide +kernel, rfl, by decide +kernel, by decide +kernel⟩
def d_Wrap_facts : He.DefD := ⟨("Wrap", some "facts"), "facts", "Wrap.facts", defArgs st_Wrap_facts, defBody st_Wrap_facts, defScope st_Wrap_facts, [], []⟩
abbrev st_Wrap_eq_ : Stmt := inClass (top 6) 2
abbrev N_Wrap_eq_ : List Str := ["self", "other"]
theorem sc_Wrap_eq_ : FnScope N_Wrap_eq_ ["self", "other"] (defScope st_Wrap_eq_) := ⟨rfl, rfl, rfl, by decide +kernel, rfl, by decide +kernel, by decide +kernel⟩
def d_Wrap_eq_ : He.DefD := ⟨("Wrap", some "__eq__"), "__eq__", "Thing.__eq__", defArgs st_Wrap_eq_, defBody st_Wrap_eq_, defScope st_Wrap_eq_, [], []⟩
abbrev st_Reverse_init_ : Stmt := inClass (top 17) 0
abbrev N_Reverse_init_ : List Str := ["self", "parent"]
theorem sc_Reverse_init_ : FnScope N_Reverse_init_ ["self", "parent"] (defScope st_Reverse_init_) := ⟨rfl, rfl, rfl, by decide +kernel, rfl, by decide +kernel, by decide +kernel⟩
def d_Reverse_init_ : He.DefD := ⟨("Reverse", some "__init__"), "__init__", "Reverse.__init__", defArgs st_Reverse_init_, defBody st_Reverse_init_, defScope st_Reverse_init_, [], []⟩
abbrev st_Reverse_class_name : Stmt := inClass (top 17) 1
abbrev N_Reverse_class_name : List Str := ["self"]
theorem sc_Reverse_class_name : FnScope N_Reverse_class_name ["self"] (defScope st_Reverse_class_name) := ⟨rfl, rfl, rfl, by decide +kernel, rfl, by decide +kernel, by decide +kernel⟩
def d_Reverse_class_name : He.DefD := ⟨("Reverse", some "class_name"), "class_name", "Reverse.class_name", defArgs st_Reverse_class_name, defBody st_Reverse_class_name, defScope st_Reverse_class_name, [], []⟩
abbrev st_Reverse_facts : Stmt := inClass (top 17) 2
abbrev N_Reverse_facts : List Str := ["self"]
theorem sc_Reverse_facts : FnScope N_Reverse_facts ["self"] (defScope st_Reverse_facts) := ⟨rfl, rfl, rfl, by decide +kernel, rfl, by decide +kernel, by decide +kernel⟩
def d_Reverse_facts : He.DefD := ⟨("Reverse", some "facts"), "facts", "Reverse.facts", defArgs st_Reverse_facts, defBody st_Reverse_facts, defScope st_Reverse_facts, [], []⟩
abbrev st_Reverse_eq_ : Stmt := inClass (top 6) 2
abbrev N_Reverse_eq_ : List Str := ["self", "other"]
theorem sc_Reverse_eq_ : FnScope N_Reverse_eq_ ["self", "other"] (defScope st_Reverse_eq_) := ⟨rfl, rfl, rfl, by decide +kernel, rfl, by decide +kernel, by decide +kernel⟩
def d_Reverse_eq_ : He.DefD := ⟨("Reverse", some "__eq__"), "__eq__", "Thing.__eq__", defArgs st_Reverse_eq_, defBody st_Reverse_eq_, defScope st_Reverse_eq_, [], []⟩
abbrev st_SetValue_init_ : Stmt := inClass (top 18) 0
abbrev N_SetValue_init_ : List Str := ["self", "name", "value"]
theorem sc_SetValue_init_ : FnScope N_SetValue_init_ ["self", "name", "value"] (defScope st_SetValue_init_) := ⟨rfl, rfl, rfl, by decide +kernel, rfl, by decide +kernel, by decide +kernel⟩
def d_SetValue_init_ : He.DefD := ⟨("SetValue", some "__init__"), "__init__", "SetValue.__init__", defArgs st_SetValue_init_, defBody st_SetValue_init_, defScope st_SetValue_init_, [], []⟩
abbrev st_SetValue_class_name : Stmt := inClass (top 18) 1
abbrev N_SetValue_class_name : List Str := ["self"]
theorem sc_SetValue_class_name : FnScope N_SetValue_class_name ["self"] (defScope st_SetValue_class_name) := ⟨rfl, rfl, rfl, by decide +kernel, rfl, by decide +kernel, by decide +kernel⟩
def d_SetValue_class_name : He.DefD := ⟨("SetValue", some "class_name"), "class_name", "SetValue.class_name", defArgs st_SetValue_class_name, defBody st_SetValue_class_name, defScope st_SetValue_class_name, [], []⟩
abbrev st_SetValue_facts : Stmt := inClass (top 18) 2
abbrev N_SetValue_facts : List Str := ["self"]
theorem sc_SetValue_facts : FnScope N_SetValue_facts ["self"] (defScope st_SetValue_facts) := ⟨rfl, rfl, rfl, by decide +kernel, rfl, by decide +kernel, by decide +kernel⟩
def d_SetValue_facts : He.DefD := ⟨("SetValue", some "facts"), "facts", "SetValue.facts", defArgs st_SetValue_facts, defBody st_SetValue_facts, defScope st_SetValue_facts, [], []⟩
abbrev st_SetValue_eq_ : Stmt := inClass (top 6) 2
abbrev N_SetValue_eq_ : List Str := ["self", "other"]
theorem sc_SetValue_eq_ : FnScope N_SetValue_eq_ ["self", "other"] (defScope st_SetValue_eq_) := ⟨rfl, rfl, rfl, by decide +kernel, rfl, by decide +kernel, by decide +kernel⟩
def d_SetValue_eq_ : He.DefD := ⟨("SetValue", some "__eq__"), "__eq__", "Thing.__eq__", defArgs st_SetValue_eq_, defBody st_SetValue_eq_, defScope st_SetValue_eq_, [], []⟩
abbrev st_NoDeed_init_ : Stmt := inClass (top 24) 0
abbrev N_NoDeed_init_ : List Str := ["self", "why"]
theorem sc_NoDeed_init_ : FnScope N_NoDeed_init_ ["self", "why"] (defScope st_NoDeed_init_) := ⟨rfl, rfl, rfl, by decide +kernel, rfl, by decide +kernel, by decide +kernel⟩
def d_NoDeed_init_ : He.DefD := ⟨("NoDeed", some "__init__"), "__init__", "NoDeed.__init__", defArgs st_NoDeed_init_, defBody st_NoDeed_init_, defScope st_NoDeed_init_, [], []⟩
def fn_0 : List He.DefD := [d_is_integer, d_is_sequence, d_is_name, d_is_value, d_row_fault, d_kind_of, d_children_of, d_check_nodes, d_check_rank, d_check_deed, d_subtree, d_subtrees, d_raised, d_with_subtrees, d_without_subtree, d_put_under, d_lifted, d_wrapped, d_done, d_played]
def fn_1 : List He.DefD := [d_putting, d_undoing, d_law_well, d_law_draw, d_law_one, d_law_names, d_law_value, d_law_levels, d_law_rows, d_law_new_name, d_law_deed, d_law_subtree, d_law_children, d_law_drawn, d_law_why, d_law_back_right, d_law, d_F_init_, d_F_eq_, d_F_len_]
def fn_2 : List He.DefD := [d_F_names, d_F_has_node, d_F_worth, d_F_line_to, d_F_below, d_F_check_nodes, d_F_descendants_of, d_F_parent_of, d_F_level_of, d_F_value_of, d_F_roots, d_F_children_of, d_F_rank_of, d_F_size_of, d_F_place_of, d_Put_init_, d_Put_class_name, d_Put_facts, d_Put_eq_, d_Move_init_]
def fn_3 : List He.DefD := [d_Move_class_name, d_Move_facts, d_Move_eq_, d_Cut_init_, d_Cut_class_name, d_Cut_facts, d_Cut_eq_, d_Lift_init_, d_Lift_class_name, d_Lift_facts, d_Lift_eq_, d_Wrap_init_, d_Wrap_class_name, d_Wrap_facts, d_Wrap_eq_, d_Reverse_init_, d_Reverse_class_name, d_Reverse_facts, d_Reverse_eq_, d_SetValue_init_]
def fn_4 : List He.DefD := [d_SetValue_class_name, d_SetValue_facts, d_SetValue_eq_, d_NoDeed_init_]
def fn : List He.DefD := fn_0 ++ fn_1 ++ fn_2 ++ fn_3 ++ fn_4
def fa_0 : List He.Fa := [.glo "is_integer", .glo "is_sequence", .glo "is_name", .glo "is_value", .glo "row_fault", .glo "kind_of", .glo "children_of", .glo "check_nodes", .glo "check_rank", .glo "check_deed", .glo "subtree", .glo "subtrees", .glo "raised", .glo "with_subtrees", .glo "without_subtree", .glo "put_under", .glo "lifted", .glo "wrapped", .glo "done", .glo "played"]
def fa_1 : List He.Fa := [.glo "putting", .glo "undoing", .glo "_law_well", .glo "_law_draw", .glo "_law_one", .glo "_law_names", .glo "_law_value", .glo "_law_levels", .glo "_law_rows", .glo "_law_new_name", .glo "_law_deed", .glo "_law_subtree", .glo "_law_children", .glo "_law_drawn", .glo "_law_why", .glo "_law_back_right", .glo "law", .glo "Thing", .glo "Forest", .glo "NoDeed"]
def fa_2 : List He.Fa := [.glo "Put", .glo "Move", .glo "Cut", .glo "Lift", .glo "Wrap", .glo "Reverse", .glo "SetValue", .glo "NAMED", .glo "NEW", .glo "VALUED", .glo "UNDER", .free "len", .free "isinstance", .free "int", .free "bool", .free "list", .free "tuple", .free "str", .free "range", .free "all"]
def fa_3 : List He.Fa := [.free "enumerate", .str "LETTERS" "abcdefghijklmnopqrstuvwxyz", .str "SIGNS" "abcdefghijklmnopqrstuvwxyz0123456789", .int "MOST_SIGNS" 8, .int "MOST_VALUE" 1000000000000000000000000000000, .cls "Forest", .mkr "Forest", .noat "Forest" "rows", .noat "Forest" "order", .noat "Forest" "spots", .meth "Forest" "check_nodes", .meth "Forest" "descendants_of", .meth "Forest" "parent_of", .meth "Forest" "level_of", .meth "Forest" "value_of", .meth "Forest" "roots", .meth "Forest" "children_of", .meth "Forest" "rank_of", .meth "Forest" "size_of", .meth "Forest" "place_of"]
def fa_4 : List He.Fa := [.meth "Forest" "__eq__", .meth "Forest" "__len__", .meth "Forest" "names", .meth "Forest" "has_node", .meth "Forest" "worth", .meth "Forest" "line_to", .meth "Forest" "below", .cls "Put", .mkr "Put", .noat "Put" "name", .noat "Put" "value", .noat "Put" "parent", .noat "Put" "rank", .meth "Put" "class_name", .meth "Put" "facts", .meth "Put" "__eq__", .cls "Move", .mkr "Move", .noat "Move" "name", .noat "Move" "parent"]
def fa_5 : List He.Fa := [.noat "Move" "rank", .meth "Move" "class_name", .meth "Move" "facts", .meth "Move" "__eq__", .cls "Cut", .mkr "Cut", .noat "Cut" "name", .meth "Cut" "class_name", .meth "Cut" "facts", .meth "Cut" "__eq__", .cls "Lift", .mkr "Lift", .noat "Lift" "name", .meth "Lift" "class_name", .meth "Lift" "facts", .meth "Lift" "__eq__", .cls "Wrap", .mkr "Wrap", .noat "Wrap" "name", .noat "Wrap" "value"]
def fa_6 : List He.Fa := [.noat "Wrap" "parent", .noat "Wrap" "first", .noat "Wrap" "last", .meth "Wrap" "class_name", .meth "Wrap" "facts", .meth "Wrap" "__eq__", .cls "Reverse", .mkr "Reverse", .noat "Reverse" "parent", .meth "Reverse" "class_name", .meth "Reverse" "facts", .meth "Reverse" "__eq__", .cls "SetValue", .mkr "SetValue", .noat "SetValue" "name", .noat "SetValue" "value", .meth "SetValue" "class_name", .meth "SetValue" "facts", .meth "SetValue" "__eq__", .noat "NoDeed" "why"]
def fa : List He.Fa := fa_0 ++ fa_1 ++ fa_2 ++ fa_3 ++ fa_4 ++ fa_5 ++ fa_6
def exB_0 (K : PySem.W.Frag) : List Bool := [decide (PySem.W.kitOne K (.ref (He.ga K "Forest")) (.ref (He.ga K "Put")) = some false), decide (PySem.W.kitOne K (.ref (He.ga K "Put")) (.ref (He.ga K "Put")) = some true), decide (PySem.W.kitOne K (.ref (He.ga K "Move")) (.ref (He.ga K "Put")) = some false), decide (PySem.W.kitOne K (.ref (He.ga K "Cut")) (.ref (He.ga K "Put")) = some false), decide (PySem.W.kitOne K (.ref (He.ga K "Lift")) (.ref (He.ga K "Put")) = some false), decide (PySem.W.kitOne K (.ref (He.ga K "Wrap")) (.ref (He.ga K "Put")) = some false), decide (PySem.W.kitOne K (.ref (He.ga K "Reverse")) (.ref (He.ga K "Put")) = some false), decide (PySem.W.kitOne K (.ref (He.ga K "SetValue")) (.ref (He.ga K "Put")) = some false), decide (PySem.W.kitOne K (.ref (He.ga K "Forest")) (.ref (He.ga K "Move")) = some false), decide (PySem.W.kitOne K (.ref (He.ga K "Put")) (.ref (He.ga K "Move")) = some false), decide (PySem.W.kitOne K (.ref (He.ga K "Move")) (.ref (He.ga K "Move")) = some true), decide (PySem.W.kitOne K (.ref (He.ga K "Cut")) (.ref (He.ga K "Move")) = some false), decide (PySem.W.kitOne K (.ref (He.ga K "Lift")) (.ref (He.ga K "Move")) = some false), decide (PySem.W.kitOne K (.ref (He.ga K "Wrap")) (.ref (He.ga K "Move")) = some false), decide (PySem.W.kitOne K (.ref (He.ga K "Reverse")) (.ref (He.ga K "Move")) = some false), decide (PySem.W.kitOne K (.ref (He.ga K "SetValue")) (.ref (He.ga K "Move")) = some false), decide (PySem.W.kitOne K (.ref (He.ga K "Forest")) (.ref (He.ga K "Cut")) = some false), decide (PySem.W.kitOne K (.ref (He.ga K "Put")) (.ref (He.ga K "Cut")) = some false), decide (PySem.W.kitOne K (.ref (He.ga K "Move")) (.ref (He.ga K "Cut")) = some false), decide (PySem.W.kitOne K (.ref (He.ga K "Cut")) (.ref (He.ga K "Cut")) = some true)]
def exB_1 (K : PySem.W.Frag) : List Bool := [decide (PySem.W.kitOne K (.ref (He.ga K "Lift")) (.ref (He.ga K "Cut")) = some false), decide (PySem.W.kitOne K (.ref (He.ga K "Wrap")) (.ref (He.ga K "Cut")) = some false), decide (PySem.W.kitOne K (.ref (He.ga K "Reverse")) (.ref (He.ga K "Cut")) = some false), decide (PySem.W.kitOne K (.ref (He.ga K "SetValue")) (.ref (He.ga K "Cut")) = some false), decide (PySem.W.kitOne K (.ref (He.ga K "Forest")) (.ref (He.ga K "Lift")) = some false), decide (PySem.W.kitOne K (.ref (He.ga K "Put")) (.ref (He.ga K "Lift")) = some false), decide (PySem.W.kitOne K (.ref (He.ga K "Move")) (.ref (He.ga K "Lift")) = some false), decide (PySem.W.kitOne K (.ref (He.ga K "Cut")) (.ref (He.ga K "Lift")) = some false), decide (PySem.W.kitOne K (.ref (He.ga K "Lift")) (.ref (He.ga K "Lift")) = some true), decide (PySem.W.kitOne K (.ref (He.ga K "Wrap")) (.ref (He.ga K "Lift")) = some false), decide (PySem.W.kitOne K (.ref (He.ga K "Reverse")) (.ref (He.ga K "Lift")) = some false), decide (PySem.W.kitOne K (.ref (He.ga K "SetValue")) (.ref (He.ga K "Lift")) = some false), decide (PySem.W.kitOne K (.ref (He.ga K "Forest")) (.ref (He.ga K "Wrap")) = some false), decide (PySem.W.kitOne K (.ref (He.ga K "Put")) (.ref (He.ga K "Wrap")) = some false), decide (PySem.W.kitOne K (.ref (He.ga K "Move")) (.ref (He.ga K "Wrap")) = some false), decide (PySem.W.kitOne K (.ref (He.ga K "Cut")) (.ref (He.ga K "Wrap")) = some false), decide (PySem.W.kitOne K (.ref (He.ga K "Lift")) (.ref (He.ga K "Wrap")) = some false), decide (PySem.W.kitOne K (.ref (He.ga K "Wrap")) (.ref (He.ga K "Wrap")) = some true), decide (PySem.W.kitOne K (.ref (He.ga K "Reverse")) (.ref (He.ga K "Wrap")) = some false), decide (PySem.W.kitOne K (.ref (He.ga K "SetValue")) (.ref (He.ga K "Wrap")) = some false)]
def exB_2 (K : PySem.W.Frag) : List Bool := [decide (PySem.W.kitOne K (.ref (He.ga K "Forest")) (.ref (He.ga K "Reverse")) = some false), decide (PySem.W.kitOne K (.ref (He.ga K "Put")) (.ref (He.ga K "Reverse")) = some false), decide (PySem.W.kitOne K (.ref (He.ga K "Move")) (.ref (He.ga K "Reverse")) = some false), decide (PySem.W.kitOne K (.ref (He.ga K "Cut")) (.ref (He.ga K "Reverse")) = some false), decide (PySem.W.kitOne K (.ref (He.ga K "Lift")) (.ref (He.ga K "Reverse")) = some false), decide (PySem.W.kitOne K (.ref (He.ga K "Wrap")) (.ref (He.ga K "Reverse")) = some false), decide (PySem.W.kitOne K (.ref (He.ga K "Reverse")) (.ref (He.ga K "Reverse")) = some true), decide (PySem.W.kitOne K (.ref (He.ga K "SetValue")) (.ref (He.ga K "Reverse")) = some false), decide (PySem.W.kitOne K (.ref (He.ga K "Forest")) (.ref (He.ga K "SetValue")) = some false), decide (PySem.W.kitOne K (.ref (He.ga K "Put")) (.ref (He.ga K "SetValue")) = some false), decide (PySem.W.kitOne K (.ref (He.ga K "Move")) (.ref (He.ga K "SetValue")) = some false), decide (PySem.W.kitOne K (.ref (He.ga K "Cut")) (.ref (He.ga K "SetValue")) = some false), decide (PySem.W.kitOne K (.ref (He.ga K "Lift")) (.ref (He.ga K "SetValue")) = some false), decide (PySem.W.kitOne K (.ref (He.ga K "Wrap")) (.ref (He.ga K "SetValue")) = some false), decide (PySem.W.kitOne K (.ref (He.ga K "Reverse")) (.ref (He.ga K "SetValue")) = some false), decide (PySem.W.kitOne K (.ref (He.ga K "SetValue")) (.ref (He.ga K "SetValue")) = some true), decide (PySem.W.kitOne K (.ref (He.ga K "Forest")) (.ref (He.ga K "Thing")) = some false), decide (PySem.W.kitOne K (.ref (He.ga K "Put")) (.ref (He.ga K "Thing")) = some true), decide (PySem.W.kitOne K (.ref (He.ga K "Move")) (.ref (He.ga K "Thing")) = some true), decide (PySem.W.kitOne K (.ref (He.ga K "Cut")) (.ref (He.ga K "Thing")) = some true)]
def exB_3 (K : PySem.W.Frag) : List Bool := [decide (PySem.W.kitOne K (.ref (He.ga K "Lift")) (.ref (He.ga K "Thing")) = some true), decide (PySem.W.kitOne K (.ref (He.ga K "Wrap")) (.ref (He.ga K "Thing")) = some true), decide (PySem.W.kitOne K (.ref (He.ga K "Reverse")) (.ref (He.ga K "Thing")) = some true), decide (PySem.W.kitOne K (.ref (He.ga K "SetValue")) (.ref (He.ga K "Thing")) = some true), decide (PySem.W.kitOne K (.type "NoneType") (.ref (He.ga K "Thing")) = some false), decide (PySem.W.kitOne K (.type "int") (.ref (He.ga K "Thing")) = some false), decide (PySem.W.kitOne K (.type "bool") (.ref (He.ga K "Thing")) = some false), decide (PySem.W.kitOne K (.type "str") (.ref (He.ga K "Thing")) = some false), decide (PySem.W.kitOne K (.type "list") (.ref (He.ga K "Thing")) = some false), decide (PySem.W.kitOne K (.ref (He.ga K "Forest")) (.ref (He.ga K "Forest")) = some true), decide (PySem.W.specialIn K (.builtin "object.__class__") "__get__" = some (some (.builtin "getset_descriptor.__get__"))), decide (PySem.W.takesIn K (.builtin "object.__class__") = some true), decide (PySem.W.findIn K (.ref (He.ga K "Forest")) "__class__" = some (some (.builtin "object.__class__"))), decide (PySem.W.mroIn K (He.ga K "Forest") (.type "object") = some true), decide (PySem.W.findIn K (.ref (He.ga K "Put")) "__class__" = some (some (.builtin "object.__class__"))), decide (PySem.W.mroIn K (He.ga K "Put") (.type "object") = some true), decide (PySem.W.findIn K (.ref (He.ga K "Move")) "__class__" = some (some (.builtin "object.__class__"))), decide (PySem.W.mroIn K (He.ga K "Move") (.type "object") = some true), decide (PySem.W.findIn K (.ref (He.ga K "Cut")) "__class__" = some (some (.builtin "object.__class__"))), decide (PySem.W.mroIn K (He.ga K "Cut") (.type "object") = some true)]
def exB_4 (K : PySem.W.Frag) : List Bool := [decide (PySem.W.findIn K (.ref (He.ga K "Lift")) "__class__" = some (some (.builtin "object.__class__"))), decide (PySem.W.mroIn K (He.ga K "Lift") (.type "object") = some true), decide (PySem.W.findIn K (.ref (He.ga K "Wrap")) "__class__" = some (some (.builtin "object.__class__"))), decide (PySem.W.mroIn K (He.ga K "Wrap") (.type "object") = some true), decide (PySem.W.findIn K (.ref (He.ga K "Reverse")) "__class__" = some (some (.builtin "object.__class__"))), decide (PySem.W.mroIn K (He.ga K "Reverse") (.type "object") = some true), decide (PySem.W.findIn K (.ref (He.ga K "SetValue")) "__class__" = some (some (.builtin "object.__class__"))), decide (PySem.W.mroIn K (He.ga K "SetValue") (.type "object") = some true), decide (PySem.W.findIn K (.ref (He.ga K "Forest")) "__ne__" = some (some (.builtin "object.__ne__"))), He.tupB K "NAMED" [.str "move", .str "cut", .str "lift", .str "setvalue"], He.tupB K "NEW" [.str "put", .str "wrap"], He.tupB K "VALUED" [.str "put", .str "wrap", .str "setvalue"], He.tupB K "UNDER" [.str "put", .str "move", .str "wrap", .str "reverse"], oexB K (He.ga K "NoDeed"), L2.xfB K (He.ga K "NoDeed"), decide (PySem.W.findIn K (.ref (He.ga K "NoDeed")) "__init__" = some (some (.ref (He.ma K (He.ga K "NoDeed") "__init__")))), decide (PySem.W.typeIn K (.ref (He.ma K (He.ga K "NoDeed") "__init__")) = some (.type "function")), decide (PySem.W.exmOne K (.ref (He.ga K "NoDeed")) (.ref (He.ga K "NoDeed")) = some true), PySem.W.readsIn K (He.ga K "Forest") (.type "type"), decide (PySem.W.specialIn K (.ref (He.ga K "Forest")) "__getattribute__" = some (some (.builtin "type.__getattribute__")))]
def exB_5 (K : PySem.W.Frag) : List Bool := [mostB K]
def exB (K : PySem.W.Frag) : List Bool := exB_0 K ++ exB_1 K ++ exB_2 K ++ exB_3 K ++ exB_4 K ++ exB_5 K
/-- what the head tells -/
structure Tx (K : PySem.W.Frag) (mg : Str → Option Value) : Prop where
  c : He.SaysD fa fn K
  e : (exB K).all id = true
  gl : ∀ x : Str, (He.Fa.glo x).ok K = true → mg x = some (.ref (He.ga K x))
  fr : ∀ x : Str, (He.Fa.free x).ok K = true → mg x = none
  st : ∀ x z : Str, (He.Fa.str x z).ok K = true → ∃ t, mg x = some (.str z t)
  it : ∀ (x : Str) (i : Int), (He.Fa.int x i).ok K = true → ∃ t, mg x = some (.int i t)
theorem Tx.ex {K : PySem.W.Frag} {mg : Str → Option Value} (T : Tx K mg) (i : Nat) {b : Bool} (h : (exB K)[i]? = some b) : b = true := List.all_eq_true.mp T.e b (List.mem_of_getElem? h)
section
variable {K : PySem.W.Frag} {mg : Str → Option Value} (T : Tx K mg)
include T
theorem Tx.g_is_integer : mg "is_integer" = some (.ref (He.ga K "is_integer")) := T.gl _ (T.c.fact 0 rfl)
theorem Tx.g_is_sequence : mg "is_sequence" = some (.ref (He.ga K "is_sequence")) := T.gl _ (T.c.fact 1 rfl)
theorem Tx.g_is_name : mg "is_name" = some (.ref (He.ga K "is_name")) := T.gl _ (T.c.fact 2 rfl)
theorem Tx.g_is_value : mg "is_value" = some (.ref (He.ga K "is_value")) := T.gl _ (T.c.fact 3 rfl)
theorem Tx.g_row_fault : mg "row_fault" = some (.ref (He.ga K "row_fault")) := T.gl _ (T.c.fact 4 rfl)
theorem Tx.g_kind_of : mg "kind_of" = some (.ref (He.ga K "kind_of")) := T.gl _ (T.c.fact 5 rfl)
theorem Tx.g_children_of : mg "children_of" = some (.ref (He.ga K "children_of")) := T.gl _ (T.c.fact 6 rfl)
theorem Tx.g_check_nodes : mg "check_nodes" = some (.ref (He.ga K "check_nodes")) := T.gl _ (T.c.fact 7 rfl)
theorem Tx.g_check_rank : mg "check_rank" = some (.ref (He.ga K "check_rank")) := T.gl _ (T.c.fact 8 rfl)
theorem Tx.g_check_deed : mg "check_deed" = some (.ref (He.ga K "check_deed")) := T.gl _ (T.c.fact 9 rfl)
theorem Tx.g_subtree : mg "subtree" = some (.ref (He.ga K "subtree")) := T.gl _ (T.c.fact 10 rfl)
theorem Tx.g_subtrees : mg "subtrees" = some (.ref (He.ga K "subtrees")) := T.gl _ (T.c.fact 11 rfl)
theorem Tx.g_raised : mg "raised" = some (.ref (He.ga K "raised")) := T.gl _ (T.c.fact 12 rfl)
theorem Tx.g_with_subtrees : mg "with_subtrees" = some (.ref (He.ga K "with_subtrees")) := T.gl _ (T.c.fact 13 rfl)
theorem Tx.g_without_subtree : mg "without_subtree" = some (.ref (He.ga K "without_subtree")) := T.gl _ (T.c.fact 14 rfl)
theorem Tx.g_put_under : mg "put_under" = some (.ref (He.ga K "put_under")) := T.gl _ (T.c.fact 15 rfl)
theorem Tx.g_lifted : mg "lifted" = some (.ref (He.ga K "lifted")) := T.gl _ (T.c.fact 16 rfl)
theorem Tx.g_wrapped : mg "wrapped" = some (.ref (He.ga K "wrapped")) := T.gl _ (T.c.fact 17 rfl)
theorem Tx.g_done : mg "done" = some (.ref (He.ga K "done")) := T.gl _ (T.c.fact 18 rfl)
theorem Tx.g_played : mg "played" = some (.ref (He.ga K "played")) := T.gl _ (T.c.fact 19 rfl)
theorem Tx.g_putting : mg "putting" = some (.ref (He.ga K "putting")) := T.gl _ (T.c.fact 20 rfl)
theorem Tx.g_undoing : mg "undoing" = some (.ref (He.ga K "undoing")) := T.gl _ (T.c.fact 21 rfl)
theorem Tx.g_law_well : mg "_law_well" = some (.ref (He.ga K "_law_well")) := T.gl _ (T.c.fact 22 rfl)
theorem Tx.g_law_draw : mg "_law_draw" = some (.ref (He.ga K "_law_draw")) := T.gl _ (T.c.fact 23 rfl)
theorem Tx.g_law_one : mg "_law_one" = some (.ref (He.ga K "_law_one")) := T.gl _ (T.c.fact 24 rfl)
theorem Tx.g_law_names : mg "_law_names" = some (.ref (He.ga K "_law_names")) := T.gl _ (T.c.fact 25 rfl)
theorem Tx.g_law_value : mg "_law_value" = some (.ref (He.ga K "_law_value")) := T.gl _ (T.c.fact 26 rfl)
theorem Tx.g_law_levels : mg "_law_levels" = some (.ref (He.ga K "_law_levels")) := T.gl _ (T.c.fact 27 rfl)
theorem Tx.g_law_rows : mg "_law_rows" = some (.ref (He.ga K "_law_rows")) := T.gl _ (T.c.fact 28 rfl)
theorem Tx.g_law_new_name : mg "_law_new_name" = some (.ref (He.ga K "_law_new_name")) := T.gl _ (T.c.fact 29 rfl)
theorem Tx.g_law_deed : mg "_law_deed" = some (.ref (He.ga K "_law_deed")) := T.gl _ (T.c.fact 30 rfl)
theorem Tx.g_law_subtree : mg "_law_subtree" = some (.ref (He.ga K "_law_subtree")) := T.gl _ (T.c.fact 31 rfl)
theorem Tx.g_law_children : mg "_law_children" = some (.ref (He.ga K "_law_children")) := T.gl _ (T.c.fact 32 rfl)
theorem Tx.g_law_drawn : mg "_law_drawn" = some (.ref (He.ga K "_law_drawn")) := T.gl _ (T.c.fact 33 rfl)
theorem Tx.g_law_why : mg "_law_why" = some (.ref (He.ga K "_law_why")) := T.gl _ (T.c.fact 34 rfl)
theorem Tx.g_law_back_right : mg "_law_back_right" = some (.ref (He.ga K "_law_back_right")) := T.gl _ (T.c.fact 35 rfl)
theorem Tx.g_law : mg "law" = some (.ref (He.ga K "law")) := T.gl _ (T.c.fact 36 rfl)
theorem Tx.g_Thing : mg "Thing" = some (.ref (He.ga K "Thing")) := T.gl _ (T.c.fact 37 rfl)
theorem Tx.g_Forest : mg "Forest" = some (.ref (He.ga K "Forest")) := T.gl _ (T.c.fact 38 rfl)
theorem Tx.g_NoDeed : mg "NoDeed" = some (.ref (He.ga K "NoDeed")) := T.gl _ (T.c.fact 39 rfl)
theorem Tx.g_Put : mg "Put" = some (.ref (He.ga K "Put")) := T.gl _ (T.c.fact 40 rfl)
theorem Tx.g_Move : mg "Move" = some (.ref (He.ga K "Move")) := T.gl _ (T.c.fact 41 rfl)
theorem Tx.g_Cut : mg "Cut" = some (.ref (He.ga K "Cut")) := T.gl _ (T.c.fact 42 rfl)
theorem Tx.g_Lift : mg "Lift" = some (.ref (He.ga K "Lift")) := T.gl _ (T.c.fact 43 rfl)
theorem Tx.g_Wrap : mg "Wrap" = some (.ref (He.ga K "Wrap")) := T.gl _ (T.c.fact 44 rfl)
theorem Tx.g_Reverse : mg "Reverse" = some (.ref (He.ga K "Reverse")) := T.gl _ (T.c.fact 45 rfl)
theorem Tx.g_SetValue : mg "SetValue" = some (.ref (He.ga K "SetValue")) := T.gl _ (T.c.fact 46 rfl)
theorem Tx.g_NAMED : mg "NAMED" = some (.ref (He.ga K "NAMED")) := T.gl _ (T.c.fact 47 rfl)
theorem Tx.g_NEW : mg "NEW" = some (.ref (He.ga K "NEW")) := T.gl _ (T.c.fact 48 rfl)
theorem Tx.g_VALUED : mg "VALUED" = some (.ref (He.ga K "VALUED")) := T.gl _ (T.c.fact 49 rfl)
theorem Tx.g_UNDER : mg "UNDER" = some (.ref (He.ga K "UNDER")) := T.gl _ (T.c.fact 50 rfl)
theorem Tx.z_len : mg "len" = none := T.fr _ (T.c.fact 51 rfl)
theorem Tx.z_isinstance : mg "isinstance" = none := T.fr _ (T.c.fact 52 rfl)
theorem Tx.z_int : mg "int" = none := T.fr _ (T.c.fact 53 rfl)
theorem Tx.z_bool : mg "bool" = none := T.fr _ (T.c.fact 54 rfl)
theorem Tx.z_list : mg "list" = none := T.fr _ (T.c.fact 55 rfl)
theorem Tx.z_tuple : mg "tuple" = none := T.fr _ (T.c.fact 56 rfl)
theorem Tx.z_str : mg "str" = none := T.fr _ (T.c.fact 57 rfl)
theorem Tx.z_range : mg "range" = none := T.fr _ (T.c.fact 58 rfl)
theorem Tx.z_all : mg "all" = none := T.fr _ (T.c.fact 59 rfl)
theorem Tx.z_enumerate : mg "enumerate" = none := T.fr _ (T.c.fact 60 rfl)
theorem Tx.c_LETTERS : ∃ t, mg "LETTERS" = some (.str "abcdefghijklmnopqrstuvwxyz" t) := T.st _ _ (T.c.fact 61 rfl)
theorem Tx.c_SIGNS : ∃ t, mg "SIGNS" = some (.str "abcdefghijklmnopqrstuvwxyz0123456789" t) := T.st _ _ (T.c.fact 62 rfl)
theorem Tx.c_MOST_SIGNS : ∃ t, mg "MOST_SIGNS" = some (.int 8 t) := T.it _ _ (T.c.fact 63 rfl)
theorem Tx.c_MOST_VALUE : ∃ t, mg "MOST_VALUE" = some (.int 1000000000000000000000000000000 t) := T.it _ _ (T.c.fact 64 rfl)
theorem Tx.cl_Forest : Cls K (He.ga K "Forest") := He.cls_ok (T.c.fact 65 rfl)
theorem Tx.mk_Forest : Mk K (He.ga K "Forest") (He.ma K (He.ga K "Forest") "__init__") := He.mkr_ok (T.c.fact 66 rfl)
theorem Tx.no_Forest_rows : NoAttr K (He.ga K "Forest") "rows" := He.noat_ok (T.c.fact 67 rfl)
theorem Tx.no_Forest_order : NoAttr K (He.ga K "Forest") "order" := He.noat_ok (T.c.fact 68 rfl)
theorem Tx.no_Forest_spots : NoAttr K (He.ga K "Forest") "spots" := He.noat_ok (T.c.fact 69 rfl)
theorem Tx.me_Forest_check_nodes : Meth K (He.ga K "Forest") "check_nodes" (He.ma K (He.ga K "Forest") "check_nodes") := He.meth_ok (T.c.fact 70 rfl)
theorem Tx.me_Forest_descendants_of : Meth K (He.ga K "Forest") "descendants_of" (He.ma K (He.ga K "Forest") "descendants_of") := He.meth_ok (T.c.fact 71 rfl)
theorem Tx.me_Forest_parent_of : Meth K (He.ga K "Forest") "parent_of" (He.ma K (He.ga K "Forest") "parent_of") := He.meth_ok (T.c.fact 72 rfl)
theorem Tx.me_Forest_level_of : Meth K (He.ga K "Forest") "level_of" (He.ma K (He.ga K "Forest") "level_of") := He.meth_ok (T.c.fact 73 rfl)
theorem Tx.me_Forest_value_of : Meth K (He.ga K "Forest") "value_of" (He.ma K (He.ga K "Forest") "value_of") := He.meth_ok (T.c.fact 74 rfl)
theorem Tx.me_Forest_roots : Meth K (He.ga K "Forest") "roots" (He.ma K (He.ga K "Forest") "roots") := He.meth_ok (T.c.fact 75 rfl)
theorem Tx.me_Forest_children_of : Meth K (He.ga K "Forest") "children_of" (He.ma K (He.ga K "Forest") "children_of") := He.meth_ok (T.c.fact 76 rfl)
theorem Tx.me_Forest_rank_of : Meth K (He.ga K "Forest") "rank_of" (He.ma K (He.ga K "Forest") "rank_of") := He.meth_ok (T.c.fact 77 rfl)
theorem Tx.me_Forest_size_of : Meth K (He.ga K "Forest") "size_of" (He.ma K (He.ga K "Forest") "size_of") := He.meth_ok (T.c.fact 78 rfl)
theorem Tx.me_Forest_place_of : Meth K (He.ga K "Forest") "place_of" (He.ma K (He.ga K "Forest") "place_of") := He.meth_ok (T.c.fact 79 rfl)
theorem Tx.me_Forest_eq_ : Meth K (He.ga K "Forest") "__eq__" (He.ma K (He.ga K "Forest") "__eq__") := He.meth_ok (T.c.fact 80 rfl)
theorem Tx.me_Forest_len_ : Meth K (He.ga K "Forest") "__len__" (He.ma K (He.ga K "Forest") "__len__") := He.meth_ok (T.c.fact 81 rfl)
theorem Tx.me_Forest_names : Meth K (He.ga K "Forest") "names" (He.ma K (He.ga K "Forest") "names") := He.meth_ok (T.c.fact 82 rfl)
theorem Tx.me_Forest_has_node : Meth K (He.ga K "Forest") "has_node" (He.ma K (He.ga K "Forest") "has_node") := He.meth_ok (T.c.fact 83 rfl)
theorem Tx.me_Forest_worth : Meth K (He.ga K "Forest") "worth" (He.ma K (He.ga K "Forest") "worth") := He.meth_ok (T.c.fact 84 rfl)
theorem Tx.me_Forest_line_to : Meth K (He.ga K "Forest") "line_to" (He.ma K (He.ga K "Forest") "line_to") := He.meth_ok (T.c.fact 85 rfl)
theorem Tx.me_Forest_below : Meth K (He.ga K "Forest") "below" (He.ma K (He.ga K "Forest") "below") := He.meth_ok (T.c.fact 86 rfl)
theorem Tx.cl_Put : Cls K (He.ga K "Put") := He.cls_ok (T.c.fact 87 rfl)
theorem Tx.mk_Put : Mk K (He.ga K "Put") (He.ma K (He.ga K "Put") "__init__") := He.mkr_ok (T.c.fact 88 rfl)
theorem Tx.no_Put_name : NoAttr K (He.ga K "Put") "name" := He.noat_ok (T.c.fact 89 rfl)
theorem Tx.no_Put_value : NoAttr K (He.ga K "Put") "value" := He.noat_ok (T.c.fact 90 rfl)
theorem Tx.no_Put_parent : NoAttr K (He.ga K "Put") "parent" := He.noat_ok (T.c.fact 91 rfl)
theorem Tx.no_Put_rank : NoAttr K (He.ga K "Put") "rank" := He.noat_ok (T.c.fact 92 rfl)
theorem Tx.me_Put_class_name : Meth K (He.ga K "Put") "class_name" (He.ma K (He.ga K "Put") "class_name") := He.meth_ok (T.c.fact 93 rfl)
theorem Tx.me_Put_facts : Meth K (He.ga K "Put") "facts" (He.ma K (He.ga K "Put") "facts") := He.meth_ok (T.c.fact 94 rfl)
theorem Tx.me_Put_eq_ : Meth K (He.ga K "Put") "__eq__" (He.ma K (He.ga K "Put") "__eq__") := He.meth_ok (T.c.fact 95 rfl)
theorem Tx.cl_Move : Cls K (He.ga K "Move") := He.cls_ok (T.c.fact 96 rfl)
theorem Tx.mk_Move : Mk K (He.ga K "Move") (He.ma K (He.ga K "Move") "__init__") := He.mkr_ok (T.c.fact 97 rfl)
theorem Tx.no_Move_name : NoAttr K (He.ga K "Move") "name" := He.noat_ok (T.c.fact 98 rfl)
theorem Tx.no_Move_parent : NoAttr K (He.ga K "Move") "parent" := He.noat_ok (T.c.fact 99 rfl)
theorem Tx.no_Move_rank : NoAttr K (He.ga K "Move") "rank" := He.noat_ok (T.c.fact 100 rfl)
theorem Tx.me_Move_class_name : Meth K (He.ga K "Move") "class_name" (He.ma K (He.ga K "Move") "class_name") := He.meth_ok (T.c.fact 101 rfl)
theorem Tx.me_Move_facts : Meth K (He.ga K "Move") "facts" (He.ma K (He.ga K "Move") "facts") := He.meth_ok (T.c.fact 102 rfl)
theorem Tx.me_Move_eq_ : Meth K (He.ga K "Move") "__eq__" (He.ma K (He.ga K "Move") "__eq__") := He.meth_ok (T.c.fact 103 rfl)
theorem Tx.cl_Cut : Cls K (He.ga K "Cut") := He.cls_ok (T.c.fact 104 rfl)
theorem Tx.mk_Cut : Mk K (He.ga K "Cut") (He.ma K (He.ga K "Cut") "__init__") := He.mkr_ok (T.c.fact 105 rfl)
theorem Tx.no_Cut_name : NoAttr K (He.ga K "Cut") "name" := He.noat_ok (T.c.fact 106 rfl)
theorem Tx.me_Cut_class_name : Meth K (He.ga K "Cut") "class_name" (He.ma K (He.ga K "Cut") "class_name") := He.meth_ok (T.c.fact 107 rfl)
theorem Tx.me_Cut_facts : Meth K (He.ga K "Cut") "facts" (He.ma K (He.ga K "Cut") "facts") := He.meth_ok (T.c.fact 108 rfl)
theorem Tx.me_Cut_eq_ : Meth K (He.ga K "Cut") "__eq__" (He.ma K (He.ga K "Cut") "__eq__") := He.meth_ok (T.c.fact 109 rfl)
theorem Tx.cl_Lift : Cls K (He.ga K "Lift") := He.cls_ok (T.c.fact 110 rfl)
theorem Tx.mk_Lift : Mk K (He.ga K "Lift") (He.ma K (He.ga K "Lift") "__init__") := He.mkr_ok (T.c.fact 111 rfl)
theorem Tx.no_Lift_name : NoAttr K (He.ga K "Lift") "name" := He.noat_ok (T.c.fact 112 rfl)
theorem Tx.me_Lift_class_name : Meth K (He.ga K "Lift") "class_name" (He.ma K (He.ga K "Lift") "class_name") := He.meth_ok (T.c.fact 113 rfl)
theorem Tx.me_Lift_facts : Meth K (He.ga K "Lift") "facts" (He.ma K (He.ga K "Lift") "facts") := He.meth_ok (T.c.fact 114 rfl)
theorem Tx.me_Lift_eq_ : Meth K (He.ga K "Lift") "__eq__" (He.ma K (He.ga K "Lift") "__eq__") := He.meth_ok (T.c.fact 115 rfl)
theorem Tx.cl_Wrap : Cls K (He.ga K "Wrap") := He.cls_ok (T.c.fact 116 rfl)
theorem Tx.mk_Wrap : Mk K (He.ga K "Wrap") (He.ma K (He.ga K "Wrap") "__init__") := He.mkr_ok (T.c.fact 117 rfl)
theorem Tx.no_Wrap_name : NoAttr K (He.ga K "Wrap") "name" := He.noat_ok (T.c.fact 118 rfl)
theorem Tx.no_Wrap_value : NoAttr K (He.ga K "Wrap") "value" := He.noat_ok (T.c.fact 119 rfl)
theorem Tx.no_Wrap_parent : NoAttr K (He.ga K "Wrap") "parent" := He.noat_ok (T.c.fact 120 rfl)
theorem Tx.no_Wrap_first : NoAttr K (He.ga K "Wrap") "first" := He.noat_ok (T.c.fact 121 rfl)
theorem Tx.no_Wrap_last : NoAttr K (He.ga K "Wrap") "last" := He.noat_ok (T.c.fact 122 rfl)
theorem Tx.me_Wrap_class_name : Meth K (He.ga K "Wrap") "class_name" (He.ma K (He.ga K "Wrap") "class_name") := He.meth_ok (T.c.fact 123 rfl)
theorem Tx.me_Wrap_facts : Meth K (He.ga K "Wrap") "facts" (He.ma K (He.ga K "Wrap") "facts") := He.meth_ok (T.c.fact 124 rfl)
theorem Tx.me_Wrap_eq_ : Meth K (He.ga K "Wrap") "__eq__" (He.ma K (He.ga K "Wrap") "__eq__") := He.meth_ok (T.c.fact 125 rfl)
theorem Tx.cl_Reverse : Cls K (He.ga K "Reverse") := He.cls_ok (T.c.fact 126 rfl)
theorem Tx.mk_Reverse : Mk K (He.ga K "Reverse") (He.ma K (He.ga K "Reverse") "__init__") := He.mkr_ok (T.c.fact 127 rfl)
theorem Tx.no_Reverse_parent : NoAttr K (He.ga K "Reverse") "parent" := He.noat_ok (T.c.fact 128 rfl)
theorem Tx.me_Reverse_class_name : Meth K (He.ga K "Reverse") "class_name" (He.ma K (He.ga K "Reverse") "class_name") := He.meth_ok (T.c.fact 129 rfl)
theorem Tx.me_Reverse_facts : Meth K (He.ga K "Reverse") "facts" (He.ma K (He.ga K "Reverse") "facts") := He.meth_ok (T.c.fact 130 rfl)
theorem Tx.me_Reverse_eq_ : Meth K (He.ga K "Reverse") "__eq__" (He.ma K (He.ga K "Reverse") "__eq__") := He.meth_ok (T.c.fact 131 rfl)
theorem Tx.cl_SetValue : Cls K (He.ga K "SetValue") := He.cls_ok (T.c.fact 132 rfl)
theorem Tx.mk_SetValue : Mk K (He.ga K "SetValue") (He.ma K (He.ga K "SetValue") "__init__") := He.mkr_ok (T.c.fact 133 rfl)
theorem Tx.no_SetValue_name : NoAttr K (He.ga K "SetValue") "name" := He.noat_ok (T.c.fact 134 rfl)
theorem Tx.no_SetValue_value : NoAttr K (He.ga K "SetValue") "value" := He.noat_ok (T.c.fact 135 rfl)
theorem Tx.me_SetValue_class_name : Meth K (He.ga K "SetValue") "class_name" (He.ma K (He.ga K "SetValue") "class_name") := He.meth_ok (T.c.fact 136 rfl)
theorem Tx.me_SetValue_facts : Meth K (He.ga K "SetValue") "facts" (He.ma K (He.ga K "SetValue") "facts") := He.meth_ok (T.c.fact 137 rfl)
theorem Tx.me_SetValue_eq_ : Meth K (He.ga K "SetValue") "__eq__" (He.ma K (He.ga K "SetValue") "__eq__") := He.meth_ok (T.c.fact 138 rfl)
theorem Tx.no_NoDeed_why : NoAttr K (He.ga K "NoDeed") "why" := He.noat_ok (T.c.fact 139 rfl)
theorem Tx.k_Forest_Put : PySem.W.kitOne K (.ref (He.ga K "Forest")) (.ref (He.ga K "Put")) = some false := of_decide_eq_true (T.ex 0 rfl)
theorem Tx.k_Put_Put : PySem.W.kitOne K (.ref (He.ga K "Put")) (.ref (He.ga K "Put")) = some true := of_decide_eq_true (T.ex 1 rfl)
theorem Tx.k_Move_Put : PySem.W.kitOne K (.ref (He.ga K "Move")) (.ref (He.ga K "Put")) = some false := of_decide_eq_true (T.ex 2 rfl)
theorem Tx.k_Cut_Put : PySem.W.kitOne K (.ref (He.ga K "Cut")) (.ref (He.ga K "Put")) = some false := of_decide_eq_true (T.ex 3 rfl)
theorem Tx.k_Lift_Put : PySem.W.kitOne K (.ref (He.ga K "Lift")) (.ref (He.ga K "Put")) = some false := of_decide_eq_true (T.ex 4 rfl)
theorem Tx.k_Wrap_Put : PySem.W.kitOne K (.ref (He.ga K "Wrap")) (.ref (He.ga K "Put")) = some false := of_decide_eq_true (T.ex 5 rfl)
theorem Tx.k_Reverse_Put : PySem.W.kitOne K (.ref (He.ga K "Reverse")) (.ref (He.ga K "Put")) = some false := of_decide_eq_true (T.ex 6 rfl)
theorem Tx.k_SetValue_Put : PySem.W.kitOne K (.ref (He.ga K "SetValue")) (.ref (He.ga K "Put")) = some false := of_decide_eq_true (T.ex 7 rfl)
theorem Tx.k_Forest_Move : PySem.W.kitOne K (.ref (He.ga K "Forest")) (.ref (He.ga K "Move")) = some false := of_decide_eq_true (T.ex 8 rfl)
theorem Tx.k_Put_Move : PySem.W.kitOne K (.ref (He.ga K "Put")) (.ref (He.ga K "Move")) = some false := of_decide_eq_true (T.ex 9 rfl)
theorem Tx.k_Move_Move : PySem.W.kitOne K (.ref (He.ga K "Move")) (.ref (He.ga K "Move")) = some true := of_decide_eq_true (T.ex 10 rfl)
theorem Tx.k_Cut_Move : PySem.W.kitOne K (.ref (He.ga K "Cut")) (.ref (He.ga K "Move")) = some false := of_decide_eq_true (T.ex 11 rfl)
theorem Tx.k_Lift_Move : PySem.W.kitOne K (.ref (He.ga K "Lift")) (.ref (He.ga K "Move")) = some false := of_decide_eq_true (T.ex 12 rfl)
theorem Tx.k_Wrap_Move : PySem.W.kitOne K (.ref (He.ga K "Wrap")) (.ref (He.ga K "Move")) = some false := of_decide_eq_true (T.ex 13 rfl)
theorem Tx.k_Reverse_Move : PySem.W.kitOne K (.ref (He.ga K "Reverse")) (.ref (He.ga K "Move")) = some false := of_decide_eq_true (T.ex 14 rfl)
theorem Tx.k_SetValue_Move : PySem.W.kitOne K (.ref (He.ga K "SetValue")) (.ref (He.ga K "Move")) = some false := of_decide_eq_true (T.ex 15 rfl)
theorem Tx.k_Forest_Cut : PySem.W.kitOne K (.ref (He.ga K "Forest")) (.ref (He.ga K "Cut")) = some false := of_decide_eq_true (T.ex 16 rfl)
theorem Tx.k_Put_Cut : PySem.W.kitOne K (.ref (He.ga K "Put")) (.ref (He.ga K "Cut")) = some false := of_decide_eq_true (T.ex 17 rfl)
theorem Tx.k_Move_Cut : PySem.W.kitOne K (.ref (He.ga K "Move")) (.ref (He.ga K "Cut")) = some false := of_decide_eq_true (T.ex 18 rfl)
theorem Tx.k_Cut_Cut : PySem.W.kitOne K (.ref (He.ga K "Cut")) (.ref (He.ga K "Cut")) = some true := of_decide_eq_true (T.ex 19 rfl)
theorem Tx.k_Lift_Cut : PySem.W.kitOne K (.ref (He.ga K "Lift")) (.ref (He.ga K "Cut")) = some false := of_decide_eq_true (T.ex 20 rfl)
theorem Tx.k_Wrap_Cut : PySem.W.kitOne K (.ref (He.ga K "Wrap")) (.ref (He.ga K "Cut")) = some false := of_decide_eq_true (T.ex 21 rfl)
theorem Tx.k_Reverse_Cut : PySem.W.kitOne K (.ref (He.ga K "Reverse")) (.ref (He.ga K "Cut")) = some false := of_decide_eq_true (T.ex 22 rfl)
theorem Tx.k_SetValue_Cut : PySem.W.kitOne K (.ref (He.ga K "SetValue")) (.ref (He.ga K "Cut")) = some false := of_decide_eq_true (T.ex 23 rfl)
theorem Tx.k_Forest_Lift : PySem.W.kitOne K (.ref (He.ga K "Forest")) (.ref (He.ga K "Lift")) = some false := of_decide_eq_true (T.ex 24 rfl)
theorem Tx.k_Put_Lift : PySem.W.kitOne K (.ref (He.ga K "Put")) (.ref (He.ga K "Lift")) = some false := of_decide_eq_true (T.ex 25 rfl)
theorem Tx.k_Move_Lift : PySem.W.kitOne K (.ref (He.ga K "Move")) (.ref (He.ga K "Lift")) = some false := of_decide_eq_true (T.ex 26 rfl)
theorem Tx.k_Cut_Lift : PySem.W.kitOne K (.ref (He.ga K "Cut")) (.ref (He.ga K "Lift")) = some false := of_decide_eq_true (T.ex 27 rfl)
theorem Tx.k_Lift_Lift : PySem.W.kitOne K (.ref (He.ga K "Lift")) (.ref (He.ga K "Lift")) = some true := of_decide_eq_true (T.ex 28 rfl)
theorem Tx.k_Wrap_Lift : PySem.W.kitOne K (.ref (He.ga K "Wrap")) (.ref (He.ga K "Lift")) = some false := of_decide_eq_true (T.ex 29 rfl)
theorem Tx.k_Reverse_Lift : PySem.W.kitOne K (.ref (He.ga K "Reverse")) (.ref (He.ga K "Lift")) = some false := of_decide_eq_true (T.ex 30 rfl)
theorem Tx.k_SetValue_Lift : PySem.W.kitOne K (.ref (He.ga K "SetValue")) (.ref (He.ga K "Lift")) = some false := of_decide_eq_true (T.ex 31 rfl)
theorem Tx.k_Forest_Wrap : PySem.W.kitOne K (.ref (He.ga K "Forest")) (.ref (He.ga K "Wrap")) = some false := of_decide_eq_true (T.ex 32 rfl)
theorem Tx.k_Put_Wrap : PySem.W.kitOne K (.ref (He.ga K "Put")) (.ref (He.ga K "Wrap")) = some false := of_decide_eq_true (T.ex 33 rfl)
theorem Tx.k_Move_Wrap : PySem.W.kitOne K (.ref (He.ga K "Move")) (.ref (He.ga K "Wrap")) = some false := of_decide_eq_true (T.ex 34 rfl)
theorem Tx.k_Cut_Wrap : PySem.W.kitOne K (.ref (He.ga K "Cut")) (.ref (He.ga K "Wrap")) = some false := of_decide_eq_true (T.ex 35 rfl)
theorem Tx.k_Lift_Wrap : PySem.W.kitOne K (.ref (He.ga K "Lift")) (.ref (He.ga K "Wrap")) = some false := of_decide_eq_true (T.ex 36 rfl)
theorem Tx.k_Wrap_Wrap : PySem.W.kitOne K (.ref (He.ga K "Wrap")) (.ref (He.ga K "Wrap")) = some true := of_decide_eq_true (T.ex 37 rfl)
theorem Tx.k_Reverse_Wrap : PySem.W.kitOne K (.ref (He.ga K "Reverse")) (.ref (He.ga K "Wrap")) = some false := of_decide_eq_true (T.ex 38 rfl)
theorem Tx.k_SetValue_Wrap : PySem.W.kitOne K (.ref (He.ga K "SetValue")) (.ref (He.ga K "Wrap")) = some false := of_decide_eq_true (T.ex 39 rfl)
theorem Tx.k_Forest_Reverse : PySem.W.kitOne K (.ref (He.ga K "Forest")) (.ref (He.ga K "Reverse")) = some false := of_decide_eq_true (T.ex 40 rfl)
theorem Tx.k_Put_Reverse : PySem.W.kitOne K (.ref (He.ga K "Put")) (.ref (He.ga K "Reverse")) = some false := of_decide_eq_true (T.ex 41 rfl)
theorem Tx.k_Move_Reverse : PySem.W.kitOne K (.ref (He.ga K "Move")) (.ref (He.ga K "Reverse")) = some false := of_decide_eq_true (T.ex 42 rfl)
theorem Tx.k_Cut_Reverse : PySem.W.kitOne K (.ref (He.ga K "Cut")) (.ref (He.ga K "Reverse")) = some false := of_decide_eq_true (T.ex 43 rfl)
theorem Tx.k_Lift_Reverse : PySem.W.kitOne K (.ref (He.ga K "Lift")) (.ref (He.ga K "Reverse")) = some false := of_decide_eq_true (T.ex 44 rfl)
theorem Tx.k_Wrap_Reverse : PySem.W.kitOne K (.ref (He.ga K "Wrap")) (.ref (He.ga K "Reverse")) = some false := of_decide_eq_true (T.ex 45 rfl)
theorem Tx.k_Reverse_Reverse : PySem.W.kitOne K (.ref (He.ga K "Reverse")) (.ref (He.ga K "Reverse")) = some true := of_decide_eq_true (T.ex 46 rfl)
theorem Tx.k_SetValue_Reverse : PySem.W.kitOne K (.ref (He.ga K "SetValue")) (.ref (He.ga K "Reverse")) = some false := of_decide_eq_true (T.ex 47 rfl)
theorem Tx.k_Forest_SetValue : PySem.W.kitOne K (.ref (He.ga K "Forest")) (.ref (He.ga K "SetValue")) = some false := of_decide_eq_true (T.ex 48 rfl)
theorem Tx.k_Put_SetValue : PySem.W.kitOne K (.ref (He.ga K "Put")) (.ref (He.ga K "SetValue")) = some false := of_decide_eq_true (T.ex 49 rfl)
theorem Tx.k_Move_SetValue : PySem.W.kitOne K (.ref (He.ga K "Move")) (.ref (He.ga K "SetValue")) = some false := of_decide_eq_true (T.ex 50 rfl)
theorem Tx.k_Cut_SetValue : PySem.W.kitOne K (.ref (He.ga K "Cut")) (.ref (He.ga K "SetValue")) = some false := of_decide_eq_true (T.ex 51 rfl)
theorem Tx.k_Lift_SetValue : PySem.W.kitOne K (.ref (He.ga K "Lift")) (.ref (He.ga K "SetValue")) = some false := of_decide_eq_true (T.ex 52 rfl)
theorem Tx.k_Wrap_SetValue : PySem.W.kitOne K (.ref (He.ga K "Wrap")) (.ref (He.ga K "SetValue")) = some false := of_decide_eq_true (T.ex 53 rfl)
theorem Tx.k_Reverse_SetValue : PySem.W.kitOne K (.ref (He.ga K "Reverse")) (.ref (He.ga K "SetValue")) = some false := of_decide_eq_true (T.ex 54 rfl)
theorem Tx.k_SetValue_SetValue : PySem.W.kitOne K (.ref (He.ga K "SetValue")) (.ref (He.ga K "SetValue")) = some true := of_decide_eq_true (T.ex 55 rfl)
theorem Tx.k_Forest_Thing : PySem.W.kitOne K (.ref (He.ga K "Forest")) (.ref (He.ga K "Thing")) = some false := of_decide_eq_true (T.ex 56 rfl)
theorem Tx.k_Put_Thing : PySem.W.kitOne K (.ref (He.ga K "Put")) (.ref (He.ga K "Thing")) = some true := of_decide_eq_true (T.ex 57 rfl)
theorem Tx.k_Move_Thing : PySem.W.kitOne K (.ref (He.ga K "Move")) (.ref (He.ga K "Thing")) = some true := of_decide_eq_true (T.ex 58 rfl)
theorem Tx.k_Cut_Thing : PySem.W.kitOne K (.ref (He.ga K "Cut")) (.ref (He.ga K "Thing")) = some true := of_decide_eq_true (T.ex 59 rfl)
theorem Tx.k_Lift_Thing : PySem.W.kitOne K (.ref (He.ga K "Lift")) (.ref (He.ga K "Thing")) = some true := of_decide_eq_true (T.ex 60 rfl)
theorem Tx.k_Wrap_Thing : PySem.W.kitOne K (.ref (He.ga K "Wrap")) (.ref (He.ga K "Thing")) = some true := of_decide_eq_true (T.ex 61 rfl)
theorem Tx.k_Reverse_Thing : PySem.W.kitOne K (.ref (He.ga K "Reverse")) (.ref (He.ga K "Thing")) = some true := of_decide_eq_true (T.ex 62 rfl)
theorem Tx.k_SetValue_Thing : PySem.W.kitOne K (.ref (He.ga K "SetValue")) (.ref (He.ga K "Thing")) = some true := of_decide_eq_true (T.ex 63 rfl)
theorem Tx.k_NoneType_Thing : PySem.W.kitOne K (.type "NoneType") (.ref (He.ga K "Thing")) = some false := of_decide_eq_true (T.ex 64 rfl)
theorem Tx.k_int_Thing : PySem.W.kitOne K (.type "int") (.ref (He.ga K "Thing")) = some false := of_decide_eq_true (T.ex 65 rfl)
theorem Tx.k_bool_Thing : PySem.W.kitOne K (.type "bool") (.ref (He.ga K "Thing")) = some false := of_decide_eq_true (T.ex 66 rfl)
theorem Tx.k_str_Thing : PySem.W.kitOne K (.type "str") (.ref (He.ga K "Thing")) = some false := of_decide_eq_true (T.ex 67 rfl)
theorem Tx.k_list_Thing : PySem.W.kitOne K (.type "list") (.ref (He.ga K "Thing")) = some false := of_decide_eq_true (T.ex 68 rfl)
theorem Tx.k_Forest_Forest : PySem.W.kitOne K (.ref (He.ga K "Forest")) (.ref (He.ga K "Forest")) = some true := of_decide_eq_true (T.ex 69 rfl)
theorem Tx.cg : PySem.W.specialIn K (.builtin "object.__class__") "__get__" = some (some (.builtin "getset_descriptor.__get__")) := of_decide_eq_true (T.ex 70 rfl)
theorem Tx.ct : PySem.W.takesIn K (.builtin "object.__class__") = some true := of_decide_eq_true (T.ex 71 rfl)
theorem Tx.cc_Forest : PySem.W.findIn K (.ref (He.ga K "Forest")) "__class__" = some (some (.builtin "object.__class__")) := of_decide_eq_true (T.ex 72 rfl)
theorem Tx.co_Forest : PySem.W.mroIn K (He.ga K "Forest") (.type "object") = some true := of_decide_eq_true (T.ex 73 rfl)
theorem Tx.cc_Put : PySem.W.findIn K (.ref (He.ga K "Put")) "__class__" = some (some (.builtin "object.__class__")) := of_decide_eq_true (T.ex 74 rfl)
theorem Tx.co_Put : PySem.W.mroIn K (He.ga K "Put") (.type "object") = some true := of_decide_eq_true (T.ex 75 rfl)
theorem Tx.cc_Move : PySem.W.findIn K (.ref (He.ga K "Move")) "__class__" = some (some (.builtin "object.__class__")) := of_decide_eq_true (T.ex 76 rfl)
theorem Tx.co_Move : PySem.W.mroIn K (He.ga K "Move") (.type "object") = some true := of_decide_eq_true (T.ex 77 rfl)
theorem Tx.cc_Cut : PySem.W.findIn K (.ref (He.ga K "Cut")) "__class__" = some (some (.builtin "object.__class__")) := of_decide_eq_true (T.ex 78 rfl)
theorem Tx.co_Cut : PySem.W.mroIn K (He.ga K "Cut") (.type "object") = some true := of_decide_eq_true (T.ex 79 rfl)
theorem Tx.cc_Lift : PySem.W.findIn K (.ref (He.ga K "Lift")) "__class__" = some (some (.builtin "object.__class__")) := of_decide_eq_true (T.ex 80 rfl)
theorem Tx.co_Lift : PySem.W.mroIn K (He.ga K "Lift") (.type "object") = some true := of_decide_eq_true (T.ex 81 rfl)
theorem Tx.cc_Wrap : PySem.W.findIn K (.ref (He.ga K "Wrap")) "__class__" = some (some (.builtin "object.__class__")) := of_decide_eq_true (T.ex 82 rfl)
theorem Tx.co_Wrap : PySem.W.mroIn K (He.ga K "Wrap") (.type "object") = some true := of_decide_eq_true (T.ex 83 rfl)
theorem Tx.cc_Reverse : PySem.W.findIn K (.ref (He.ga K "Reverse")) "__class__" = some (some (.builtin "object.__class__")) := of_decide_eq_true (T.ex 84 rfl)
theorem Tx.co_Reverse : PySem.W.mroIn K (He.ga K "Reverse") (.type "object") = some true := of_decide_eq_true (T.ex 85 rfl)
theorem Tx.cc_SetValue : PySem.W.findIn K (.ref (He.ga K "SetValue")) "__class__" = some (some (.builtin "object.__class__")) := of_decide_eq_true (T.ex 86 rfl)
theorem Tx.co_SetValue : PySem.W.mroIn K (He.ga K "SetValue") (.type "object") = some true := of_decide_eq_true (T.ex 87 rfl)
theorem Tx.ne_Forest : PySem.W.findIn K (.ref (He.ga K "Forest")) "__ne__" = some (some (.builtin "object.__ne__")) := of_decide_eq_true (T.ex 88 rfl)
theorem Tx.t_NAMED : He.tupB K "NAMED" [.str "move", .str "cut", .str "lift", .str "setvalue"] = true := T.ex 89 rfl
theorem Tx.t_NEW : He.tupB K "NEW" [.str "put", .str "wrap"] = true := T.ex 90 rfl
theorem Tx.t_VALUED : He.tupB K "VALUED" [.str "put", .str "wrap", .str "setvalue"] = true := T.ex 91 rfl
theorem Tx.t_UNDER : He.tupB K "UNDER" [.str "put", .str "move", .str "wrap", .str "reverse"] = true := T.ex 92 rfl
theorem Tx.oex : oexB K (He.ga K "NoDeed") = true := T.ex 93 rfl
theorem Tx.xf : L2.xfB K (He.ga K "NoDeed") = true := T.ex 94 rfl
theorem Tx.nd_init : PySem.W.findIn K (.ref (He.ga K "NoDeed")) "__init__" = some (some (.ref (He.ma K (He.ga K "NoDeed") "__init__"))) := of_decide_eq_true (T.ex 95 rfl)
theorem Tx.nd_tinit : PySem.W.typeIn K (.ref (He.ma K (He.ga K "NoDeed") "__init__")) = some (.type "function") := of_decide_eq_true (T.ex 96 rfl)
theorem Tx.nd_exm : PySem.W.exmOne K (.ref (He.ga K "NoDeed")) (.ref (He.ga K "NoDeed")) = some true := of_decide_eq_true (T.ex 97 rfl)
theorem Tx.most_rd : PySem.W.readsIn K (He.ga K "Forest") (.type "type") = true := T.ex 98 rfl
theorem Tx.most_ga : PySem.W.specialIn K (.ref (He.ga K "Forest")) "__getattribute__" = some (some (.builtin "type.__getattribute__")) := of_decide_eq_true (T.ex 99 rfl)
theorem Tx.most : mostB K = true := T.ex 100 rfl
theorem Tx.d_is_integer : ∃ fd, FunD K "is_integer" "is_integer" (defArgs st_is_integer) (defBody st_is_integer) (defScope st_is_integer) [] [] (He.fAd K ("is_integer", none)) fd := T.c.def_ (d := K13.d_is_integer) 0 rfl
theorem Tx.d_is_sequence : ∃ fd, FunD K "is_sequence" "is_sequence" (defArgs st_is_sequence) (defBody st_is_sequence) (defScope st_is_sequence) [] [] (He.fAd K ("is_sequence", none)) fd := T.c.def_ (d := K13.d_is_sequence) 1 rfl
theorem Tx.d_is_name : ∃ fd, FunD K "is_name" "is_name" (defArgs st_is_name) (defBody st_is_name) (defScope st_is_name) [] [] (He.fAd K ("is_name", none)) fd := T.c.def_ (d := K13.d_is_name) 2 rfl
theorem Tx.d_is_value : ∃ fd, FunD K "is_value" "is_value" (defArgs st_is_value) (defBody st_is_value) (defScope st_is_value) [] [] (He.fAd K ("is_value", none)) fd := T.c.def_ (d := K13.d_is_value) 3 rfl
theorem Tx.d_row_fault : ∃ fd, FunD K "row_fault" "row_fault" (defArgs st_row_fault) (defBody st_row_fault) (defScope st_row_fault) [] [] (He.fAd K ("row_fault", none)) fd := T.c.def_ (d := K13.d_row_fault) 4 rfl
theorem Tx.d_kind_of : ∃ fd, FunD K "kind_of" "kind_of" (defArgs st_kind_of) (defBody st_kind_of) (defScope st_kind_of) [] [] (He.fAd K ("kind_of", none)) fd := T.c.def_ (d := K13.d_kind_of) 5 rfl
theorem Tx.d_children_of : ∃ fd, FunD K "children_of" "children_of" (defArgs st_children_of) (defBody st_children_of) (defScope st_children_of) [] [] (He.fAd K ("children_of", none)) fd := T.c.def_ (d := K13.d_children_of) 6 rfl
theorem Tx.d_check_nodes : ∃ fd, FunD K "check_nodes" "check_nodes" (defArgs st_check_nodes) (defBody st_check_nodes) (defScope st_check_nodes) [] [] (He.fAd K ("check_nodes", none)) fd := T.c.def_ (d := K13.d_check_nodes) 7 rfl
theorem Tx.d_check_rank : ∃ fd, FunD K "check_rank" "check_rank" (defArgs st_check_rank) (defBody st_check_rank) (defScope st_check_rank) [] [] (He.fAd K ("check_rank", none)) fd := T.c.def_ (d := K13.d_check_rank) 8 rfl
theorem Tx.d_check_deed : ∃ fd, FunD K "check_deed" "check_deed" (defArgs st_check_deed) (defBody st_check_deed) (defScope st_check_deed) [] [] (He.fAd K ("check_deed", none)) fd := T.c.def_ (d := K13.d_check_deed) 9 rfl
theorem Tx.d_subtree : ∃ fd, FunD K "subtree" "subtree" (defArgs st_subtree) (defBody st_subtree) (defScope st_subtree) [] [] (He.fAd K ("subtree", none)) fd := T.c.def_ (d := K13.d_subtree) 10 rfl
theorem Tx.d_subtrees : ∃ fd, FunD K "subtrees" "subtrees" (defArgs st_subtrees) (defBody st_subtrees) (defScope st_subtrees) [] [] (He.fAd K ("subtrees", none)) fd := T.c.def_ (d := K13.d_subtrees) 11 rfl
theorem Tx.d_raised : ∃ fd, FunD K "raised" "raised" (defArgs st_raised) (defBody st_raised) (defScope st_raised) [] [] (He.fAd K ("raised", none)) fd := T.c.def_ (d := K13.d_raised) 12 rfl
theorem Tx.d_with_subtrees : ∃ fd, FunD K "with_subtrees" "with_subtrees" (defArgs st_with_subtrees) (defBody st_with_subtrees) (defScope st_with_subtrees) [] [] (He.fAd K ("with_subtrees", none)) fd := T.c.def_ (d := K13.d_with_subtrees) 13 rfl
theorem Tx.d_without_subtree : ∃ fd, FunD K "without_subtree" "without_subtree" (defArgs st_without_subtree) (defBody st_without_subtree) (defScope st_without_subtree) [] [] (He.fAd K ("without_subtree", none)) fd := T.c.def_ (d := K13.d_without_subtree) 14 rfl
theorem Tx.d_put_under : ∃ fd, FunD K "put_under" "put_under" (defArgs st_put_under) (defBody st_put_under) (defScope st_put_under) [] [] (He.fAd K ("put_under", none)) fd := T.c.def_ (d := K13.d_put_under) 15 rfl
theorem Tx.d_lifted : ∃ fd, FunD K "lifted" "lifted" (defArgs st_lifted) (defBody st_lifted) (defScope st_lifted) [] [] (He.fAd K ("lifted", none)) fd := T.c.def_ (d := K13.d_lifted) 16 rfl
theorem Tx.d_wrapped : ∃ fd, FunD K "wrapped" "wrapped" (defArgs st_wrapped) (defBody st_wrapped) (defScope st_wrapped) [] [] (He.fAd K ("wrapped", none)) fd := T.c.def_ (d := K13.d_wrapped) 17 rfl
theorem Tx.d_done : ∃ fd, FunD K "done" "done" (defArgs st_done) (defBody st_done) (defScope st_done) [] [] (He.fAd K ("done", none)) fd := T.c.def_ (d := K13.d_done) 18 rfl
theorem Tx.d_played : ∃ fd, FunD K "played" "played" (defArgs st_played) (defBody st_played) (defScope st_played) [] [] (He.fAd K ("played", none)) fd := T.c.def_ (d := K13.d_played) 19 rfl
theorem Tx.d_putting : ∃ fd, FunD K "putting" "putting" (defArgs st_putting) (defBody st_putting) (defScope st_putting) [] [] (He.fAd K ("putting", none)) fd := T.c.def_ (d := K13.d_putting) 20 rfl
theorem Tx.d_undoing : ∃ fd, FunD K "undoing" "undoing" (defArgs st_undoing) (defBody st_undoing) (defScope st_undoing) [] [] (He.fAd K ("undoing", none)) fd := T.c.def_ (d := K13.d_undoing) 21 rfl
theorem Tx.d_law_well : ∃ fd, FunD K "_law_well" "_law_well" (defArgs st_law_well) (defBody st_law_well) (defScope st_law_well) [] [] (He.fAd K ("_law_well", none)) fd := T.c.def_ (d := K13.d_law_well) 22 rfl
theorem Tx.d_law_draw : ∃ fd, FunD K "_law_draw" "_law_draw" (defArgs st_law_draw) (defBody st_law_draw) (defScope st_law_draw) [] [] (He.fAd K ("_law_draw", none)) fd := T.c.def_ (d := K13.d_law_draw) 23 rfl
theorem Tx.d_law_one : ∃ fd, FunD K "_law_one" "_law_one" (defArgs st_law_one) (defBody st_law_one) (defScope st_law_one) [] [] (He.fAd K ("_law_one", none)) fd := T.c.def_ (d := K13.d_law_one) 24 rfl
theorem Tx.d_law_names : ∃ fd, FunD K "_law_names" "_law_names" (defArgs st_law_names) (defBody st_law_names) (defScope st_law_names) [] [] (He.fAd K ("_law_names", none)) fd := T.c.def_ (d := K13.d_law_names) 25 rfl
theorem Tx.d_law_value : ∃ fd, FunD K "_law_value" "_law_value" (defArgs st_law_value) (defBody st_law_value) (defScope st_law_value) [] [] (He.fAd K ("_law_value", none)) fd := T.c.def_ (d := K13.d_law_value) 26 rfl
theorem Tx.d_law_levels : ∃ fd, FunD K "_law_levels" "_law_levels" (defArgs st_law_levels) (defBody st_law_levels) (defScope st_law_levels) [] [] (He.fAd K ("_law_levels", none)) fd := T.c.def_ (d := K13.d_law_levels) 27 rfl
theorem Tx.d_law_rows : ∃ fd, FunD K "_law_rows" "_law_rows" (defArgs st_law_rows) (defBody st_law_rows) (defScope st_law_rows) [] [] (He.fAd K ("_law_rows", none)) fd := T.c.def_ (d := K13.d_law_rows) 28 rfl
theorem Tx.d_law_new_name : ∃ fd, FunD K "_law_new_name" "_law_new_name" (defArgs st_law_new_name) (defBody st_law_new_name) (defScope st_law_new_name) [] [] (He.fAd K ("_law_new_name", none)) fd := T.c.def_ (d := K13.d_law_new_name) 29 rfl
theorem Tx.d_law_deed : ∃ fd, FunD K "_law_deed" "_law_deed" (defArgs st_law_deed) (defBody st_law_deed) (defScope st_law_deed) [] [] (He.fAd K ("_law_deed", none)) fd := T.c.def_ (d := K13.d_law_deed) 30 rfl
theorem Tx.d_law_subtree : ∃ fd, FunD K "_law_subtree" "_law_subtree" (defArgs st_law_subtree) (defBody st_law_subtree) (defScope st_law_subtree) [] [] (He.fAd K ("_law_subtree", none)) fd := T.c.def_ (d := K13.d_law_subtree) 31 rfl
theorem Tx.d_law_children : ∃ fd, FunD K "_law_children" "_law_children" (defArgs st_law_children) (defBody st_law_children) (defScope st_law_children) [] [] (He.fAd K ("_law_children", none)) fd := T.c.def_ (d := K13.d_law_children) 32 rfl
theorem Tx.d_law_drawn : ∃ fd, FunD K "_law_drawn" "_law_drawn" (defArgs st_law_drawn) (defBody st_law_drawn) (defScope st_law_drawn) [] [] (He.fAd K ("_law_drawn", none)) fd := T.c.def_ (d := K13.d_law_drawn) 33 rfl
theorem Tx.d_law_why : ∃ fd, FunD K "_law_why" "_law_why" (defArgs st_law_why) (defBody st_law_why) (defScope st_law_why) [] [] (He.fAd K ("_law_why", none)) fd := T.c.def_ (d := K13.d_law_why) 34 rfl
theorem Tx.d_law_back_right : ∃ fd, FunD K "_law_back_right" "_law_back_right" (defArgs st_law_back_right) (defBody st_law_back_right) (defScope st_law_back_right) [] [] (He.fAd K ("_law_back_right", none)) fd := T.c.def_ (d := K13.d_law_back_right) 35 rfl
theorem Tx.d_law : ∃ fd, FunD K "law" "law" (defArgs st_law) (defBody st_law) (defScope st_law) [] [] (He.fAd K ("law", none)) fd := T.c.def_ (d := K13.d_law) 36 rfl
theorem Tx.d_F_init_ : ∃ fd, FunD K "__init__" "Forest.__init__" (defArgs st_F_init_) (defBody st_F_init_) (defScope st_F_init_) [] [] (He.fAd K ("Forest", some "__init__")) fd := T.c.def_ (d := K13.d_F_init_) 37 rfl
theorem Tx.d_F_eq_ : ∃ fd, FunD K "__eq__" "Forest.__eq__" (defArgs st_F_eq_) (defBody st_F_eq_) (defScope st_F_eq_) [] [] (He.fAd K ("Forest", some "__eq__")) fd := T.c.def_ (d := K13.d_F_eq_) 38 rfl
theorem Tx.d_F_len_ : ∃ fd, FunD K "__len__" "Forest.__len__" (defArgs st_F_len_) (defBody st_F_len_) (defScope st_F_len_) [] [] (He.fAd K ("Forest", some "__len__")) fd := T.c.def_ (d := K13.d_F_len_) 39 rfl
theorem Tx.d_F_names : ∃ fd, FunD K "names" "Forest.names" (defArgs st_F_names) (defBody st_F_names) (defScope st_F_names) [] [] (He.fAd K ("Forest", some "names")) fd := T.c.def_ (d := K13.d_F_names) 40 rfl
theorem Tx.d_F_has_node : ∃ fd, FunD K "has_node" "Forest.has_node" (defArgs st_F_has_node) (defBody st_F_has_node) (defScope st_F_has_node) [] [] (He.fAd K ("Forest", some "has_node")) fd := T.c.def_ (d := K13.d_F_has_node) 41 rfl
theorem Tx.d_F_worth : ∃ fd, FunD K "worth" "Forest.worth" (defArgs st_F_worth) (defBody st_F_worth) (defScope st_F_worth) [] [] (He.fAd K ("Forest", some "worth")) fd := T.c.def_ (d := K13.d_F_worth) 42 rfl
theorem Tx.d_F_line_to : ∃ fd, FunD K "line_to" "Forest.line_to" (defArgs st_F_line_to) (defBody st_F_line_to) (defScope st_F_line_to) [] [] (He.fAd K ("Forest", some "line_to")) fd := T.c.def_ (d := K13.d_F_line_to) 43 rfl
theorem Tx.d_F_below : ∃ fd, FunD K "below" "Forest.below" (defArgs st_F_below) (defBody st_F_below) (defScope st_F_below) [] [] (He.fAd K ("Forest", some "below")) fd := T.c.def_ (d := K13.d_F_below) 44 rfl
theorem Tx.d_F_check_nodes : ∃ fd, FunD K "check_nodes" "Asked.check_nodes" (defArgs st_F_check_nodes) (defBody st_F_check_nodes) (defScope st_F_check_nodes) [] [] (He.fAd K ("Forest", some "check_nodes")) fd := T.c.def_ (d := K13.d_F_check_nodes) 45 rfl
theorem Tx.d_F_descendants_of : ∃ fd, FunD K "descendants_of" "Asked.descendants_of" (defArgs st_F_descendants_of) (defBody st_F_descendants_of) (defScope st_F_descendants_of) [] [] (He.fAd K ("Forest", some "descendants_of")) fd := T.c.def_ (d := K13.d_F_descendants_of) 46 rfl
theorem Tx.d_F_parent_of : ∃ fd, FunD K "parent_of" "Asked.parent_of" (defArgs st_F_parent_of) (defBody st_F_parent_of) (defScope st_F_parent_of) [] [] (He.fAd K ("Forest", some "parent_of")) fd := T.c.def_ (d := K13.d_F_parent_of) 47 rfl
theorem Tx.d_F_level_of : ∃ fd, FunD K "level_of" "Asked.level_of" (defArgs st_F_level_of) (defBody st_F_level_of) (defScope st_F_level_of) [] [] (He.fAd K ("Forest", some "level_of")) fd := T.c.def_ (d := K13.d_F_level_of) 48 rfl
theorem Tx.d_F_value_of : ∃ fd, FunD K "value_of" "Asked.value_of" (defArgs st_F_value_of) (defBody st_F_value_of) (defScope st_F_value_of) [] [] (He.fAd K ("Forest", some "value_of")) fd := T.c.def_ (d := K13.d_F_value_of) 49 rfl
theorem Tx.d_F_roots : ∃ fd, FunD K "roots" "Asked.roots" (defArgs st_F_roots) (defBody st_F_roots) (defScope st_F_roots) [] [] (He.fAd K ("Forest", some "roots")) fd := T.c.def_ (d := K13.d_F_roots) 50 rfl
theorem Tx.d_F_children_of : ∃ fd, FunD K "children_of" "Asked.children_of" (defArgs st_F_children_of) (defBody st_F_children_of) (defScope st_F_children_of) [] [] (He.fAd K ("Forest", some "children_of")) fd := T.c.def_ (d := K13.d_F_children_of) 51 rfl
theorem Tx.d_F_rank_of : ∃ fd, FunD K "rank_of" "Asked.rank_of" (defArgs st_F_rank_of) (defBody st_F_rank_of) (defScope st_F_rank_of) [] [] (He.fAd K ("Forest", some "rank_of")) fd := T.c.def_ (d := K13.d_F_rank_of) 52 rfl
theorem Tx.d_F_size_of : ∃ fd, FunD K "size_of" "Asked.size_of" (defArgs st_F_size_of) (defBody st_F_size_of) (defScope st_F_size_of) [] [] (He.fAd K ("Forest", some "size_of")) fd := T.c.def_ (d := K13.d_F_size_of) 53 rfl
theorem Tx.d_F_place_of : ∃ fd, FunD K "place_of" "Asked.place_of" (defArgs st_F_place_of) (defBody st_F_place_of) (defScope st_F_place_of) [] [] (He.fAd K ("Forest", some "place_of")) fd := T.c.def_ (d := K13.d_F_place_of) 54 rfl
theorem Tx.d_Put_init_ : ∃ fd, FunD K "__init__" "Put.__init__" (defArgs st_Put_init_) (defBody st_Put_init_) (defScope st_Put_init_) [] [] (He.fAd K ("Put", some "__init__")) fd := T.c.def_ (d := K13.d_Put_init_) 55 rfl
theorem Tx.d_Put_class_name : ∃ fd, FunD K "class_name" "Put.class_name" (defArgs st_Put_class_name) (defBody st_Put_class_name) (defScope st_Put_class_name) [] [] (He.fAd K ("Put", some "class_name")) fd := T.c.def_ (d := K13.d_Put_class_name) 56 rfl
theorem Tx.d_Put_facts : ∃ fd, FunD K "facts" "Put.facts" (defArgs st_Put_facts) (defBody st_Put_facts) (defScope st_Put_facts) [] [] (He.fAd K ("Put", some "facts")) fd := T.c.def_ (d := K13.d_Put_facts) 57 rfl
theorem Tx.d_Put_eq_ : ∃ fd, FunD K "__eq__" "Thing.__eq__" (defArgs st_Put_eq_) (defBody st_Put_eq_) (defScope st_Put_eq_) [] [] (He.fAd K ("Put", some "__eq__")) fd := T.c.def_ (d := K13.d_Put_eq_) 58 rfl
theorem Tx.d_Move_init_ : ∃ fd, FunD K "__init__" "Move.__init__" (defArgs st_Move_init_) (defBody st_Move_init_) (defScope st_Move_init_) [] [] (He.fAd K ("Move", some "__init__")) fd := T.c.def_ (d := K13.d_Move_init_) 59 rfl
theorem Tx.d_Move_class_name : ∃ fd, FunD K "class_name" "Move.class_name" (defArgs st_Move_class_name) (defBody st_Move_class_name) (defScope st_Move_class_name) [] [] (He.fAd K ("Move", some "class_name")) fd := T.c.def_ (d := K13.d_Move_class_name) 60 rfl
theorem Tx.d_Move_facts : ∃ fd, FunD K "facts" "Move.facts" (defArgs st_Move_facts) (defBody st_Move_facts) (defScope st_Move_facts) [] [] (He.fAd K ("Move", some "facts")) fd := T.c.def_ (d := K13.d_Move_facts) 61 rfl
theorem Tx.d_Move_eq_ : ∃ fd, FunD K "__eq__" "Thing.__eq__" (defArgs st_Move_eq_) (defBody st_Move_eq_) (defScope st_Move_eq_) [] [] (He.fAd K ("Move", some "__eq__")) fd := T.c.def_ (d := K13.d_Move_eq_) 62 rfl
theorem Tx.d_Cut_init_ : ∃ fd, FunD K "__init__" "Cut.__init__" (defArgs st_Cut_init_) (defBody st_Cut_init_) (defScope st_Cut_init_) [] [] (He.fAd K ("Cut", some "__init__")) fd := T.c.def_ (d := K13.d_Cut_init_) 63 rfl
theorem Tx.d_Cut_class_name : ∃ fd, FunD K "class_name" "Cut.class_name" (defArgs st_Cut_class_name) (defBody st_Cut_class_name) (defScope st_Cut_class_name) [] [] (He.fAd K ("Cut", some "class_name")) fd := T.c.def_ (d := K13.d_Cut_class_name) 64 rfl
theorem Tx.d_Cut_facts : ∃ fd, FunD K "facts" "Cut.facts" (defArgs st_Cut_facts) (defBody st_Cut_facts) (defScope st_Cut_facts) [] [] (He.fAd K ("Cut", some "facts")) fd := T.c.def_ (d := K13.d_Cut_facts) 65 rfl
theorem Tx.d_Cut_eq_ : ∃ fd, FunD K "__eq__" "Thing.__eq__" (defArgs st_Cut_eq_) (defBody st_Cut_eq_) (defScope st_Cut_eq_) [] [] (He.fAd K ("Cut", some "__eq__")) fd := T.c.def_ (d := K13.d_Cut_eq_) 66 rfl
theorem Tx.d_Lift_init_ : ∃ fd, FunD K "__init__" "Lift.__init__" (defArgs st_Lift_init_) (defBody st_Lift_init_) (defScope st_Lift_init_) [] [] (He.fAd K ("Lift", some "__init__")) fd := T.c.def_ (d := K13.d_Lift_init_) 67 rfl
theorem Tx.d_Lift_class_name : ∃ fd, FunD K "class_name" "Lift.class_name" (defArgs st_Lift_class_name) (defBody st_Lift_class_name) (defScope st_Lift_class_name) [] [] (He.fAd K ("Lift", some "class_name")) fd := T.c.def_ (d := K13.d_Lift_class_name) 68 rfl
theorem Tx.d_Lift_facts : ∃ fd, FunD K "facts" "Lift.facts" (defArgs st_Lift_facts) (defBody st_Lift_facts) (defScope st_Lift_facts) [] [] (He.fAd K ("Lift", some "facts")) fd := T.c.def_ (d := K13.d_Lift_facts) 69 rfl
theorem Tx.d_Lift_eq_ : ∃ fd, FunD K "__eq__" "Thing.__eq__" (defArgs st_Lift_eq_) (defBody st_Lift_eq_) (defScope st_Lift_eq_) [] [] (He.fAd K ("Lift", some "__eq__")) fd := T.c.def_ (d := K13.d_Lift_eq_) 70 rfl
theorem Tx.d_Wrap_init_ : ∃ fd, FunD K "__init__" "Wrap.__init__" (defArgs st_Wrap_init_) (defBody st_Wrap_init_) (defScope st_Wrap_init_) [] [] (He.fAd K ("Wrap", some "__init__")) fd := T.c.def_ (d := K13.d_Wrap_init_) 71 rfl
theorem Tx.d_Wrap_class_name : ∃ fd, FunD K "class_name" "Wrap.class_name" (defArgs st_Wrap_class_name) (defBody st_Wrap_class_name) (defScope st_Wrap_class_name) [] [] (He.fAd K ("Wrap", some "class_name")) fd := T.c.def_ (d := K13.d_Wrap_class_name) 72 rfl
theorem Tx.d_Wrap_facts : ∃ fd, FunD K "facts" "Wrap.facts" (defArgs st_Wrap_facts) (defBody st_Wrap_facts) (defScope st_Wrap_facts) [] [] (He.fAd K ("Wrap", some "facts")) fd := T.c.def_ (d := K13.d_Wrap_facts) 73 rfl
theorem Tx.d_Wrap_eq_ : ∃ fd, FunD K "__eq__" "Thing.__eq__" (defArgs st_Wrap_eq_) (defBody st_Wrap_eq_) (defScope st_Wrap_eq_) [] [] (He.fAd K ("Wrap", some "__eq__")) fd := T.c.def_ (d := K13.d_Wrap_eq_) 74 rfl
theorem Tx.d_Reverse_init_ : ∃ fd, FunD K "__init__" "Reverse.__init__" (defArgs st_Reverse_init_) (defBody st_Reverse_init_) (defScope st_Reverse_init_) [] [] (He.fAd K ("Reverse", some "__init__")) fd := T.c.def_ (d := K13.d_Reverse_init_) 75 rfl
theorem Tx.d_Reverse_class_name : ∃ fd, FunD K "class_name" "Reverse.class_name" (defArgs st_Reverse_class_name) (defBody st_Reverse_class_name) (defScope st_Reverse_class_name) [] [] (He.fAd K ("Reverse", some "class_name")) fd := T.c.def_ (d := K13.d_Reverse_class_name) 76 rfl
theorem Tx.d_Reverse_facts : ∃ fd, FunD K "facts" "Reverse.facts" (defArgs st_Reverse_facts) (defBody st_Reverse_facts) (defScope st_Reverse_facts) [] [] (He.fAd K ("Reverse", some "facts")) fd := T.c.def_ (d := K13.d_Reverse_facts) 77 rfl
theorem Tx.d_Reverse_eq_ : ∃ fd, FunD K "__eq__" "Thing.__eq__" (defArgs st_Reverse_eq_) (defBody st_Reverse_eq_) (defScope st_Reverse_eq_) [] [] (He.fAd K ("Reverse", some "__eq__")) fd := T.c.def_ (d := K13.d_Reverse_eq_) 78 rfl
theorem Tx.d_SetValue_init_ : ∃ fd, FunD K "__init__" "SetValue.__init__" (defArgs st_SetValue_init_) (defBody st_SetValue_init_) (defScope st_SetValue_init_) [] [] (He.fAd K ("SetValue", some "__init__")) fd := T.c.def_ (d := K13.d_SetValue_init_) 79 rfl
theorem Tx.d_SetValue_class_name : ∃ fd, FunD K "class_name" "SetValue.class_name" (defArgs st_SetValue_class_name) (defBody st_SetValue_class_name) (defScope st_SetValue_class_name) [] [] (He.fAd K ("SetValue", some "class_name")) fd := T.c.def_ (d := K13.d_SetValue_class_name) 80 rfl
theorem Tx.d_SetValue_facts : ∃ fd, FunD K "facts" "SetValue.facts" (defArgs st_SetValue_facts) (defBody st_SetValue_facts) (defScope st_SetValue_facts) [] [] (He.fAd K ("SetValue", some "facts")) fd := T.c.def_ (d := K13.d_SetValue_facts) 81 rfl
theorem Tx.d_SetValue_eq_ : ∃ fd, FunD K "__eq__" "Thing.__eq__" (defArgs st_SetValue_eq_) (defBody st_SetValue_eq_) (defScope st_SetValue_eq_) [] [] (He.fAd K ("SetValue", some "__eq__")) fd := T.c.def_ (d := K13.d_SetValue_eq_) 82 rfl
theorem Tx.d_NoDeed_init_ : ∃ fd, FunD K "__init__" "NoDeed.__init__" (defArgs st_NoDeed_init_) (defBody st_NoDeed_init_) (defScope st_NoDeed_init_) [] [] (He.fAd K ("NoDeed", some "__init__")) fd := T.c.def_ (d := K13.d_NoDeed_init_) 83 rfl
end
end K13
end
section
set_option Elab.async false
set_option linter.all false
set_option maxRecDepth 100000
set_option maxHeartbeats 0
namespace K13
open PySem PySem.W PySem.Calls PyProof.Rows
abbrev rowW : PySem.W.OpenRow := PySem.W.OpenLaw.row PySem.Challenge.rw_forestrows_k13_whole_deeds_undone
abbrev qv : Program := PySem.W.view rowW.prog [68]
abbrev lawT : List He.Defn := [("law", none)]
/-- the addresses of the written part -/
def asK (g : Addr → Option Obj) : List Addr := cStatics :: He.asD g 4
def KK (g : Addr → Option Obj) : PySem.W.Frag := He.frT g (asK g)
abbrev AlK : Type := (He.AlD × He.AlD) × Bool
def obs1 (g : Addr → Option Obj) : He.AlD := He.obsD fa [] (KK g)
def obs2 (g : Addr → Option Obj) : He.AlD := He.obsD [] fn (KK g)
def obs3 (g : Addr → Option Obj) : Bool := (exB (KK g)).all id && He.tabsB g lawT (KK g)
def obsK (g : Addr → Option Obj) : AlK := ((obs1 g, obs2 g), obs3 g)
def valK : AlK := ((He.valD [], He.valD fn), true)
/-- what the head tells of the heap h -/
structure SaysK (h : Heap) (K : PySem.W.Frag) : Prop where
  c1 : He.SaysD fa [] K
  c2 : He.SaysD [] fn K
  e : (exB K).all id = true
  hd : ∀ p ∈ lawT, PySem.W.codeHdIn K (He.cT K p).1 (He.cT K p).2 = true
  out : ∀ p ∈ lawT, K.lookup (He.cT K p).2 = none
  empty : ∀ p ∈ lawT, h.get? (He.cT K p).2 = some { cls := .none, data := .fields #[] }
theorem saysK_of {h : Heap} (e : obsK h.get? = valK) : SaysK h (KK h.get?) := by
  have e1 : obs1 h.get? = He.valD [] := congrArg (fun z : AlK => z.1.1) e
  have e2 : obs2 h.get? = He.valD fn := congrArg (fun z : AlK => z.1.2) e
  have e3 : obs3 h.get? = true := congrArg (fun z : AlK => z.2) e
  obtain ⟨a, b⟩ := He.ba e3
  have b' := List.all_eq_true.mp b
  have q : ∀ p ∈ lawT, ∃ o, h.get? (He.cT (KK h.get?) p).2 = some o ∧ He.emptyTab o = true := fun p hp => by
    have := (He.ba (b' p hp)).2
    split at this
    · exact ⟨_, by assumption, this⟩
    · cases this
  refine ⟨e1, e2, a, fun p hp => (He.ba (b' p hp)).1, fun p hp => ?_, fun p hp => ?_⟩
  · obtain ⟨o, h1, h2⟩ := q p hp
    exact He.frT_none h1 h2
  · obtain ⟨o, h1, h2⟩ := q p hp
    rw [h1, He.emptyTab_eq h2]
def hk : PySem.W.Hook where
  α := AlK
  obs := fun s => obsK s.heap.get?
  val := fun _ => valK
  says := fun _ h => ∃ K : PySem.W.Frag, K.In h ∧ SaysK h K
  of := fun _ _ e => ⟨_, He.frT_in, saysK_of e⟩
  keeps := fun _ _ _ ⟨K, hK, c⟩ k => ⟨K, PySem.W.Frag.In.keeps hK k, ⟨c.c1, c.c2, c.e, c.hd, c.out, fun p hp => k _ _ (c.empty p hp)⟩⟩
def ob (s : PySem.W.SharedT) : AlK := obsK (HandSHeadRun.getT s)
theorem ob_eq (s : PySem.W.SharedT) : ob s = hk.obs s.abs := by
  have e : HandSHeadRun.getT s = s.abs.heap.get? := funext (HandSHeadRun.getT_eq s)
  show obsK (HandSHeadRun.getT s) = obsK s.abs.heap.get?
  rw [e]
def names0 : List PySem.Str := ["_wall", "LETTERS", "SIGNS", "MOST_SIGNS", "MOST_VALUE", "Thing", "is_integer", "is_sequence", "is_name", "is_value", "Put", "Move", "Cut", "Lift", "Wrap", "Reverse", "SetValue", "ForestError", "NoForest", "Twice"]
def names1 : List PySem.Str := ["NoNode", "NoDeed", "NoDeeds", "Asked", "row_fault", "Forest", "NAMED", "NEW", "VALUED", "UNDER", "kind_of", "children_of", "check_nodes", "check_rank", "check_deed", "subtree", "subtrees", "raised", "with_subtrees", "without_subtree"]
def names2 : List PySem.Str := ["put_under", "lifted", "wrapped", "done", "played", "putting", "undoing", "_law_well", "_law_draw", "_law_one", "_law_names", "_law_value", "_law_levels", "_law_rows", "_law_new_name", "_law_deed", "_law_subtree", "_law_children", "_law_drawn", "_law_why"]
def names3 : List PySem.Str := ["_law_back_right"]
def names : List PySem.Str := names0 ++ names1 ++ names2 ++ names3
theorem run_a (w : World) (os : OsState) : (HandSHeadRun.endF (HandSHeadRun.stepQ (HandSHeadRun.denQ HandSHeadRun.tabQ) rowW.prog w) 8000 rowW.prog w os).map (fun s => HandSHeadRun.looksF rowW.prog (boot_heap w.params) s.abs) = some true := by kernel_rfl
theorem run_b (w : World) (os : OsState) : (HandSHeadRun.endF (HandSHeadRun.stepQ (HandSHeadRun.denQ HandSHeadRun.tabQ) rowW.prog w) 8000 rowW.prog w os).map (fun s => HandSHeadRun.seenQ qv names (importedModules rowW.prog.main.body) (fun s => PySem.W.xlAt qv [] s && PySem.W.recOk (PySem.W.OpenRow.toRowW rowW).records s) s.abs) = some (PySem.W.openGood qv names) := by kernel_rfl
theorem run_c (w : World) (os : OsState) : (HandSHeadRun.endF (HandSHeadRun.stepQ (HandSHeadRun.denQ HandSHeadRun.tabQ) rowW.prog w) 8000 rowW.prog w os).map (fun s => ob s) = some valK := by kernel_rfl
theorem opt3 {S A B C : Type} {o : Option S} {f : S → A} {g : S → B} {h : S → C} {a : A} {b : B} {c : C} (h1 : o.map f = some a) (h2 : o.map g = some b) (h3 : o.map h = some c) : o.map (fun s => (f s, g s, h s)) = some (a, b, c) := by
  cases o with
  | none => cases h1
  | some s =>
    cases h1
    cases h2
    cases h3
    rfl
theorem run (w : World) : HandSHeadRun.RunEq rowW qv hk ob 8000 names w := fun os => opt3 (run_a w os) (run_b w os) (run_c w os)
end K13
end
section
set_option Elab.async false
set_option linter.all false
set_option maxRecDepth 100000
set_option maxHeartbeats 4000000
namespace K13
open PySem PySem.Spec PyProof.Rows L2
open Evl (Ex)
/-! ## calls by name: a def of the text with its promise -/
/-- the global name x is a def that keeps sp -/
def GFn (P : Program) (w : World) (K : PySem.W.Frag) (mg : Str → Option Value) (base : Heap) (x : Str) (CX : CXT) (k : Nat) (ps : List Str) (sp : Sp) : Prop :=
  ∃ f fd, mg x = some (.ref f) ∧ PySem.W.keepIn K (.ref f) = true ∧ Binds K fd ps [] ∧ FnOk P w K mg base CX k f fd ps sp
/-- the method m of the class at C -/
def MFn (P : Program) (w : World) (K : PySem.W.Frag) (mg : Str → Option Value) (base : Heap) (C : Addr) (m : Str) (CX : CXT) (k : Nat) (ps : List Str) (sp : Sp) : Prop :=
  ∃ f fd, Meth K C m f ∧ Binds K fd ps [] ∧ FnOk P w K mg base CX k f fd ps sp
/-- the class x at C, made by its __init__ -/
def KFn (P : Program) (w : World) (K : PySem.W.Frag) (mg : Str → Option Value) (base : Heap) (x : Str) (C : Addr) (CX : CXT) (k : Nat) (ps : List Str) (sp : Sp) : Prop :=
  ∃ f fd, mg x = some (.ref C) ∧ Mk K C f ∧ Binds K fd ps [] ∧ FnOk P w K mg base CX k f fd ps sp
section
variable {X : Cx} {CX : CXT} {j k : Nat} {C : Addr} {ps : List Str} {sp : Sp} {E : XK} {x m : Str} {p pos apos : Pos} {e o : Expr} {es : List Expr} {ta : TE} {t : TA}
theorem pe_g (G : GFn X.prog X.w X.K X.mg X.base x CX j ps sp) (hr : Room k X.A) (hx : Passes CX X E) (ha : PA X (e :: es) t) (hjk : j ≤ k := by decide) (hg : Gl X x := by rfl) (hdb : (x == ("__debug__" : Str)) = false := by decide)
    (he : starEach (e :: es) X.env = (false, eval e X.env) :: starEach es X.env := by rfl) (hpl : (backTo pos (starEach es X.env)).any (·.1) = false := by rfl) :
    PE X (.Call (.Name x p) (e :: es) [] pos) (tCall sp [] E t) := by
  obtain ⟨f, fd, hm, hk, hb, F⟩ := G
  exact pe_call F (hr.mono hjk) hg hm hk hb .nil hx ha hdb he hpl
theorem pe_m {pl : Sem Bool} (c : Cls X.K C) (G : MFn X.prog X.w X.K X.mg X.base C m CX j ps sp) (hr : Room k X.A) (hx : Passes CX X E) (he : PE X o ta) (ha : PA X (e :: es) t) (hjk : j ≤ k := by decide)
    (hst : starEach (e :: es) X.env = (false, eval e X.env) :: starEach es X.env := by rfl) (hpl : (backTo pos (starEach es X.env)).any (·.1) = false := by rfl)
    (ht : eval (.Call (.Attribute o m apos) (e :: es) [] pos) X.env = (do
      let ov ← eval o X.env
      standAt apos.atName
      let (f, first) ← holding [ov] (getMethod ov m pl)
      callWith pos f first (backTo pos (starEach (e :: es) X.env)) (backToKw pos (keywordEach [] X.env))) := by rfl) :
    PE X (.Call (.Attribute o m apos) (e :: es) [] pos) (tMeth C m sp [] E ta t) := by
  obtain ⟨f, fd, hm, hb, F⟩ := G
  exact pe_meth he c hm F (hr.mono hjk) hb .nil hx ha hst hpl ht
theorem pe_m0 {pl : Sem Bool} (c : Cls X.K C) (G : MFn X.prog X.w X.K X.mg X.base C m CX j ps sp) (hr : Room k X.A) (hx : Passes CX X E) (he : PE X o ta) (hjk : j ≤ k := by decide)
    (ht : eval (.Call (.Attribute o m apos) [] [] pos) X.env = (do
      let ov ← eval o X.env
      standAt apos.atName
      let (f, first) ← holding [ov] (getMethod ov m pl)
      callWith pos f first (backTo pos (starEach [] X.env)) (backToKw pos (keywordEach [] X.env))) := by rfl) :
    PE X (.Call (.Attribute o m apos) [] [] pos) (tMeth C m sp [] E ta tNil) := by
  obtain ⟨f, fd, hm, hb, F⟩ := G
  exact pe_meth0 he c hm F (hr.mono hjk) hb .nil hx ht
theorem pe_k (G : KFn X.prog X.w X.K X.mg X.base x C CX j ps sp) (hr : Room k X.A) (hx : Passes CX X E) (ha : PA X (e :: es) t) (hjk : j + 1 ≤ k := by decide) (hg : Gl X x := by rfl) (hdb : (x == ("__debug__" : Str)) = false := by decide)
    (he : starEach (e :: es) X.env = (false, eval e X.env) :: starEach es X.env := by rfl) (hpl : (backTo pos (starEach es X.env)).any (·.1) = false := by rfl) :
    PE X (.Call (.Name x p) (e :: es) [] pos) (tMake C sp [] E t) := by
  obtain ⟨f, fd, hm, M, hb, F⟩ := G
  exact pe_make M F (hr.mono hjk) hg hm hb .nil hx ha hdb he hpl
end
section
variable {P : Program} {w : World} {K : PySem.W.Frag} {mg : Str → Option Value} {base : Heap}
/-- a def of the text by its body: no exception leaves it -/
theorem ok0 {x qual : Str} {st : Stmt} {f : Addr} {fd : FuncData} {N ps : List Str} {k : Nat} {sp : Sp} (F : FunD K x qual (defArgs st) (defBody st) (defScope st) [] [] f fd) (S : FnScope N ps (defScope st)) (len : ∀ vs H Q E, sp vs H Q E → vs.length = ps.length)
    (hbody : ∀ (cdv : Value) (A : Around) (outer : List Env) (s : Shared) (H : Hp) (vs : List V) (Q : VK) (E : XK), Room k (A.deeper (envOfC qual (defScope st) s.heap.objs.size f cdv)) → sp vs H Q E →
      ∃ t, PSs (cxOf CX0 P w K mg base N qual (defScope st) f cdv A outer s H E).nox (defBody st) t ∧ t { nx := fun _ H' => Q .non H', rt := Q } (start N vs) H) : FnOk P w K mg base CX0 (k + 1) f fd ps sp :=
  F.ok S len fun cdv A outer s H vs Q E hr h => let ⟨t, h1, h2⟩ := hbody cdv A outer s H vs Q E hr h; ⟨t, PSs.nox h1, h2⟩
/-- .. that may raise -/
theorem okX {x qual : Str} {st : Stmt} {f : Addr} {fd : FuncData} {N ps : List Str} {k : Nat} {sp : Sp} (F : FunD K x qual (defArgs st) (defBody st) (defScope st) [] [] f fd) (S : FnScope N ps (defScope st)) (len : ∀ vs H Q E, sp vs H Q E → vs.length = ps.length)
    (hbody : ∀ (cdv : Value) (A : Around) (outer : List Env) (s : Shared) (H : Hp) (vs : List V) (Q : VK) (E : XK), Room k (A.deeper (envOfC qual (defScope st) s.heap.objs.size f cdv)) → sp vs H Q E →
      ∃ t, PSs (cxOf (L2.CX P w) P w K mg base N qual (defScope st) f cdv A outer s H E) (defBody st) t ∧ t { nx := fun _ H' => Q .non H', rt := Q } (start N vs) H) : FnOk P w K mg base (L2.CX P w) (k + 1) f fd ps sp :=
  F.ok S len hbody
theorem gfn {x : Str} {params : Arguments} {body : List Stmt} {scope : Scope} {CX : CXT} {k : Nat} {ps : List Str} {sp : Sp} {f : Addr} {fd : FuncData} (hm : mg x = some (.ref f)) (F : FunD K x x params body scope [] [] f fd) (hb : Binds K fd ps []) (ok : FnOk P w K mg base CX k f fd ps sp) : GFn P w K mg base x CX k ps sp :=
  ⟨f, fd, hm, F.kp, hb, ok⟩
theorem GFn.imp {x : Str} {CX : CXT} {j k : Nat} {ps : List Str} {sp sp' : Sp} (G : GFn P w K mg base x CX j ps sp) (h : ∀ vs H Q E, sp' vs H Q E → sp vs H Q E) (hjk : j ≤ k) : GFn P w K mg base x CX k ps sp' := by
  obtain ⟨f, fd, h1, h2, h3, F⟩ := G
  exact ⟨f, fd, h1, h2, h3, (F.imp h).mono hjk⟩
end
theorem szOf {n : Nat} (h : n ≤ 100000) : n ≤ sizeLine := Evl.sz_of h
theorem szLt {n : Nat} (h : n < 100000) : n < sizeLine := Evl.sz_lt h
theorem Ex.same {H H' : Hp} (h : Ex H H') : Same H H' := h
/-- what a promise of a value hands on: the heap has grown, of the value P holds -/
abbrev Ret (P : V → Hp → Prop) (H : Hp) (Q : VK) : Prop := ∀ v H2, Ex H H2 → P v H2 → Q v H2
/-! ## small promises -/
/-- odd fields of a deed: None, texts, numbers, flags, lists -/
def fieldOk (H : Hp) : V → Prop
  | .non => True
  | .bl _ => True
  | .int _ => True
  | .str z => z.length ≤ 100000
  | .ref a => ∃ xs, H a = some (.lst xs)
  | _ => False
theorem fieldOk.mono {H H' : Hp} (e : Ex H H') : ∀ {v : V}, fieldOk H v → fieldOk H' v
  | .non, _ => trivial
  | .bl _, _ => trivial
  | .int _, _ => trivial
  | .str _, h => h
  | .ref a, ⟨xs, h⟩ => ⟨xs, e _ _ h⟩
theorem fieldTy {K : PySem.W.Frag} {H : Hp} : ∀ {v : V}, fieldOk H v → ∃ T, TyX K H v (.type T) ∧ (T = "NoneType" ∨ T = "bool" ∨ T = "int" ∨ T = "str" ∨ T = "list")
  | .non, _ => ⟨_, .base .non, .inl rfl⟩
  | .bl b, _ => ⟨_, .base (.bl b), .inr (.inl rfl)⟩
  | .int i, _ => ⟨_, .base (.int i), .inr (.inr (.inl rfl))⟩
  | .str x, _ => ⟨_, .base (.str x), .inr (.inr (.inr (.inl rfl)))⟩
  | .ref a, ⟨xs, h⟩ => ⟨_, .base (.lst h), .inr (.inr (.inr (.inr rfl)))⟩
def isInt : V → Bool
  | .int _ => true
  | _ => false
def isStr : V → Bool
  | .str _ => true
  | _ => false
def isBl : V → Bool
  | .bl _ => true
  | _ => false
theorem kTT {a b : String} (h : kitB a b = some true) {K : PySem.W.Frag} : PySem.W.kitOne K (.type a) (.type b) = some true := kit_ty h
theorem kTF {a b : String} (h : kitB a b = some false) {K : PySem.W.Frag} : PySem.W.kitOne K (.type a) (.type b) = some false := kit_ty h
/-- isinstance(v, int), of such a value: a flag is an int -/
theorem kitV {K : PySem.W.Frag} {H : Hp} {v : V} (h : fieldOk H v) : ∃ t, TyX K H v t ∧ PySem.W.kitOne K t (.type "int") = some (isInt v || isBl v) ∧ PySem.W.kitOne K t (.type "bool") = some (isBl v) ∧ PySem.W.kitOne K t (.type "str") = some (isStr v) := by
  cases v with
  | non => exact ⟨_, .base .non, kTF (by decide +kernel), kTF (by decide +kernel), kTF (by decide +kernel)⟩
  | bl b => exact ⟨_, .base (.bl b), kTT (by decide +kernel), kTT (by decide +kernel), kTF (by decide +kernel)⟩
  | int i => exact ⟨_, .base (.int i), kTT (by decide +kernel), kTF (by decide +kernel), kTF (by decide +kernel)⟩
  | str x => exact ⟨_, .base (.str x), kTF (by decide +kernel), kTF (by decide +kernel), kTT (by decide +kernel)⟩
  | ref a =>
    obtain ⟨xs, h⟩ := h
    exact ⟨_, .base (.lst h), kTF (by decide +kernel), kTF (by decide +kernel), kTF (by decide +kernel)⟩
  | byt b => exact h.elim
  | flt b => exact h.elim
  | ty n => exact h.elim
theorem b_int : bootBuiltins "int" = some (.type "int") := by decide +kernel
theorem b_bool : bootBuiltins "bool" = some (.type "bool") := by decide +kernel
theorem b_str : bootBuiltins "str" = some (.type "str") := by decide +kernel
theorem b_list : bootBuiltins "list" = some (.type "list") := by decide +kernel
theorem b_tuple : bootBuiltins "tuple" = some (.type "tuple") := by decide +kernel
theorem b_isinstance : bootBuiltins "isinstance" = some (.builtin "isinstance") := by decide +kernel
theorem b_len : bootBuiltins "len" = some (.builtin "len") := by decide +kernel
theorem b_all : bootBuiltins "all" = some (.builtin "all") := by decide +kernel
theorem iteD {p : Prop} [Decidable p] {A B : Prop} (h : p) (a : A) : if decide p = true then A else B := by rw [decide_eq_true h]; exact a
theorem iteDn {p : Prop} [Decidable p] {A B : Prop} (h : ¬ p) (b : B) : if decide p = true then A else B := by rw [decide_eq_false h]; exact b
theorem iteND {p : Prop} [Decidable p] {A B : Prop} (h : p) (b : B) : if (!decide p) = true then A else B := by rw [decide_eq_true h]; exact b
theorem iteNDn {p : Prop} [Decidable p] {A B : Prop} (h : ¬ p) (a : A) : if (!decide p) = true then A else B := by rw [decide_eq_false h]; exact a
theorem iteB {b c : Bool} {A B : Prop} (h : b = c) (a : if c = true then A else B) : if b = true then A else B := by rw [h]; exact a
/-- a comprehension's turns, by a word of the turn's number -/
theorem lc_by {J : It} {g : TG} {tt : TT} {te : TE} {vs : List Nat} {σ : L2.St} {H0 : Hp} {D : Addr} {Qd : Hp → Prop} (n : Nat) (Pv : Nat → Hp → Prop) (h0 : Pv 0 (upd H0 D (.lst []))) (hgo : ∀ i H, i < n → Pv i H → J.go i H) (hstop : ∀ H, Pv n H → J.stop n H)
    (hs : ∀ i x H H', i < n → Pv i H → J.yld i H x H' → g x (wipe σ vs) H' fun σ2 H2 => wipe σ2 vs = wipe σ vs ∧ tt σ2 H2 fun b H3 =>
      if b = true then te σ2 H3 fun y H4 => ∃ acc, H4 D = some (.lst acc) ∧ acc.length < sizeLine ∧ Pv (i + 1) (upd H4 D (.lst (acc ++ [y]))) else Pv (i + 1) H3) (hd : ∀ H, Pv n H → Qd H) :
    ∃ W : Nat → Nat → Hp → Prop, (∃ m, W 0 m (upd H0 D (.lst []))) ∧ ∀ i m H, W i m H →
      (J.stop i H ∧ Qd H) ∨ (J.go i H ∧ ∃ Nx : Hp → Prop, (∀ H', Nx H' → ∃ m', m' < m ∧ W (i + 1) m' H') ∧ ∀ x H', J.yld i H x H' → g x (wipe σ vs) H' fun σ2 H2 => wipe σ2 vs = wipe σ vs ∧ tt σ2 H2 fun b H3 =>
        if b = true then te σ2 H3 fun y H4 => ∃ acc, H4 D = some (.lst acc) ∧ acc.length < sizeLine ∧ Nx (upd H4 D (.lst (acc ++ [y]))) else Nx H3) := by
  refine ⟨fun i m H => i ≤ n ∧ m = n - i ∧ Pv i H, ⟨n, Nat.zero_le _, rfl, h0⟩, fun i m H ⟨hi, hm, hP⟩ => ?_⟩
  by_cases he : i = n
  · subst he
    exact .inl ⟨hstop H hP, hd H hP⟩
  · have hlt : i < n := by omega
    exact .inr ⟨hgo i H hlt hP, Pv (i + 1), fun H' h => ⟨n - (i + 1), by omega, by omega, rfl, h⟩, fun x H' hy => hs i x H H' hlt hP hy⟩
end K13
end
section
set_option Elab.async false
set_option linter.all false
set_option maxRecDepth 100000
set_option maxHeartbeats 4000000
namespace K13
open PySem PySem.Spec PyProof.Rows L2
open Evl (Ex)
/-! ## is_integer, is_value, is_sequence -/
def spIsInt : Sp := fun vs H Q _ => ∃ v, vs = [v] ∧ fieldOk H v ∧ Q (.bl (isInt v)) H
section
variable {P : Program} {w : World} {K : PySem.W.Frag} {mg : Str → Option Value} {base : Heap}
theorem ok_is_integer (T : Tx K mg) : GFn P w K mg base "is_integer" CX0 1 ["thing"] spIsInt := by
  obtain ⟨fd, F⟩ := T.d_is_integer
  refine gfn T.g_is_integer F (F.bindsN fun _ _ _ _ _ _ us hl => match us, hl with | [_], _ => rfl) (ok0 F sc_is_integer (fun vs H Q E h => ?_) fun cdv A outer s H vs Q E hr h => ?_)
  · obtain ⟨v, rfl, _⟩ := h; rfl
  · obtain ⟨v, rfl, hf, q⟩ := h
    refine ⟨_, pss_one (ps_ret (pe_and (pe_callB call_isi rfl T.z_isinstance b_isinstance (pa_cons (pv 0) (pa_cons (pe_bltn (v := .ty "int") rfl T.z_int b_int rfl) pa_nil)))
      (pe_one (pe_not (pe_callB call_isi rfl T.z_isinstance b_isinstance (pa_cons (pv 0) (pa_cons (pe_bltn (v := .ty "bool") rfl T.z_bool b_bool rfl) pa_nil))))))), ?_⟩
    obtain ⟨t, ty, k1, k2, _⟩ := kitV (K := K) hf
    refine ⟨_, rfl, _, _, t, _, _, rfl, .ty "int", ty, k1, _, rfl, ?_⟩
    cases hb : (isInt v || isBl v) with
    | false =>
      have : isInt v = false := by revert hb; cases v <;> simp [isInt, isBl]
      rw [this] at q
      exact iteF q
    | true =>
      refine iteT ⟨_, rfl, _, _, t, _, _, rfl, .ty "bool", ty, k2, _, rfl, ?_⟩
      have : (!isBl v) = isInt v := by revert hb; cases v <;> simp [isInt, isBl]
      rw [this]
      exact q
/-! ## is_value -/
def MV : Int := 1000000000000000000000000000000
def isVal : V → Bool
  | .int i => decide (-MV ≤ i) && decide (i ≤ MV)
  | _ => false
def spIsVal : Sp := fun vs H Q _ => ∃ v, vs = [v] ∧ fieldOk H v ∧ Q (.bl (isVal v)) H
theorem ok_is_value (T : Tx K mg) : GFn P w K mg base "is_value" CX0 2 ["thing"] spIsVal := by
  obtain ⟨fd, F⟩ := T.d_is_value
  obtain ⟨tk, hM⟩ := T.c_MOST_VALUE
  refine gfn T.g_is_value F (F.bindsN fun _ _ _ _ _ _ us hl => match us, hl with | [_], _ => rfl) (ok0 F sc_is_value (fun vs H Q E h => ?_) fun cdv A outer s H vs Q E hr h => ?_)
  · obtain ⟨v, rfl, _⟩ := h; rfl
  · obtain ⟨v, rfl, hf, q⟩ := h
    refine ⟨_, pss_one (ps_ret (pe_and (pe_g (ok_is_integer T) hr pass0 (pa_cons (pv 0) pa_nil)) (pe_one (pe_chain op_le op_le (pe_un un_neg (pe_glob (v := .int MV) rfl hM ⟨_, rfl⟩)) (pv 0) (pe_glob (v := .int MV) rfl hM ⟨_, rfl⟩))))), ?_⟩
    refine ⟨_, rfl, v, rfl, hf, _, rfl, ?_⟩
    cases v with
    | int i =>
      refine iteT ⟨_, rfl, _, rfl, _, _, rfl, rfl, _, rfl, ?_⟩
      have q : Q (.bl (decide (-MV ≤ i) && decide (i ≤ MV))) H := q
      by_cases c : -MV ≤ i
      · rw [decide_eq_true c] at q ⊢
        exact iteT ⟨_, _, rfl, rfl, q⟩
      · rw [decide_eq_false c] at q ⊢
        exact iteF q
    | non => exact iteF q
    | bl b => exact iteF q
    | str x => exact iteF q
    | ref a => exact iteF q
    | byt b => exact hf.elim
    | flt b => exact hf.elim
    | ty n => exact hf.elim
/-! ## is_name -/
def letters : List Nat := ("abcdefghijklmnopqrstuvwxyz" : Str).cps.toList
def signs : List Nat := ("abcdefghijklmnopqrstuvwxyz0123456789" : Str).cps.toList
def nameOk (s : Str) : Bool := decide (1 ≤ s.length) && (decide (s.length ≤ 8) && (decide (s.cps.toList.headD 0 ∈ letters) && s.cps.toList.all fun c => decide (c ∈ signs)))
def isNam : V → Bool
  | .str s => nameOk s
  | _ => false
def spIsNam : Sp := fun vs H Q _ => ∃ v, vs = [v] ∧ fieldOk H v ∧ ∀ H', Ex H H' → Q (.bl (isNam v)) H'
theorem ok_is_name (T : Tx K mg) : GFn P w K mg base "is_name" CX0 1 ["thing"] spIsNam := by
  obtain ⟨fd, F⟩ := T.d_is_name
  obtain ⟨t1, hS⟩ := T.c_MOST_SIGNS
  obtain ⟨t2, hL⟩ := T.c_LETTERS
  obtain ⟨t3, hG⟩ := T.c_SIGNS
  refine gfn T.g_is_name F (F.bindsN fun _ _ _ _ _ _ us hl => match us, hl with | [_], _ => rfl) (ok0 F sc_is_name (fun vs H Q E h => ?_) fun cdv A outer s H vs Q E hr h => ?_)
  · obtain ⟨v, rfl, _⟩ := h; rfl
  · obtain ⟨v, rfl, hf, q⟩ := h
    refine ⟨_, pss_cons (ps_if (PW.pt (pw_or (pt_not (pt_val (pe_callB call_isi rfl T.z_isinstance b_isinstance (pa_cons (pv 0) (pa_cons (pe_bltn (v := .ty "str") rfl T.z_str b_str rfl) pa_nil)))))
        (pw_or1 (pt_not (pt_chain op_le op_le pe_int (pe_callB call_len_str rfl T.z_len b_len (pa_cons (pv 0) pa_nil)) (pe_glob (v := .int 8) rfl hS ⟨_, rfl⟩))))))
        (pss_one (ps_ret pe_bl)) pss_nil)
      (pss_one (ps_ret (pe_and (pe_cmpR op_in_sign (pe_ix ix_str (pv 0) pe_int (fun _ _ => rfl)) (pe_glob (v := .str "abcdefghijklmnopqrstuvwxyz") rfl hL ⟨_, rfl⟩) (by rfl))
        (pe_one (pe_callB (cr_all rfl) rfl T.z_all b_all (pa_cons (pe_lc (own := [("sign", 1)]) (g := gName 1) (tt := tYes) rfl sc_is_name.nd (pi_str (pv 0)) (blkOk_by (N := N_is_name) (sc := defScope st_is_name) (by decide +kernel)) (fun _ _ _ _ _ => pg_name (i := 1) sc_is_name.nd rfl (Or.inl rfl)) (fun _ _ _ _ _ => pts_nil)
          (fun _ _ _ _ _ => pe_cmpR op_in_sign (pv 1) (pe_glob (v := .str "abcdefghijklmnopqrstuvwxyz0123456789") rfl hG ⟨_, rfl⟩) (by rfl))) pa_nil)))))), ?_⟩
    obtain ⟨t, ty, _, _, k3⟩ := kitV (K := K) hf
    refine ⟨_, rfl, _, _, t, _, _, rfl, .ty "str", ty, k3, _, rfl, ?_⟩
    cases v with
    | str z =>
      have hz : z.length ≤ 100000 := hf
      refine iteF ⟨_, rfl, _, rfl, szOf hz, _, _, rfl, rfl, _, rfl, ?_⟩
      have q : ∀ H', Ex H H' → Q (.bl (decide (1 ≤ z.length) && (decide (z.length ≤ 8) && (decide (z.cps.toList.headD 0 ∈ letters) && z.cps.toList.all fun c => decide (c ∈ signs))))) H' := q
      by_cases c1 : 1 ≤ z.length
      · rw [decide_eq_true c1] at q
        rw [decide_eq_true (show (1 : Int) ≤ (z.length : Int) by omega)]
        refine iteT ⟨_, _, rfl, rfl, _, rfl, ?_⟩
        by_cases c2 : z.length ≤ 8
        · rw [decide_eq_true c2] at q
          rw [decide_eq_true (show (z.length : Int) ≤ 8 by omega)]
          refine iteF ?_
          have hl : z.cps.toList.length = z.length := rfl
          cases hc : z.cps.toList with
          | nil => rw [hc] at hl; simp at hl; omega
          | cons c cs =>
            refine ⟨_, rfl, z, 0, c, rfl, rfl, szOf hz, by rw [hc]; exact atI_nat (j := 0) rfl, c, _, rfl, rfl, _, rfl, ?_⟩
            rw [hc] at q
            have q : ∀ H', Ex H H' → Q (.bl (decide (c ∈ letters) && (c :: cs).all fun c => decide (c ∈ signs))) H' := q
            show if decide (c ∈ letters) = true then _ else _
            by_cases c3 : c ∈ letters
            · rw [decide_eq_true c3] at q ⊢
              refine iteT ⟨_, rfl, z, rfl, fun D hD => ?_⟩
              refine lc_by z.cps.size (fun i H' => (∀ a o, a ≠ D → H a = some o → H' a = some o) ∧ H' D = some (.lst ((z.cps.toList.take i).map fun c => V.bl (decide (c ∈ signs))))) ⟨fun a o ha h => by rw [upd_ne ha]; exact h, upd_same⟩ (fun i H' hi _ => hi) (fun H' _ => Nat.le_refl _) (fun i x H' H'' hi hP hy => ?_) fun H' hP => ?_
              · obtain ⟨rfl, c', hc', rfl⟩ := hy
                refine ⟨rfl, _, rfl, c', _, rfl, rfl, _, hP.2, ?_, fun a o ha h => ?_, ?_⟩
                · rw [List.length_map, List.length_take]
                  have : z.cps.toList.length = z.length := rfl
                  exact szLt (by omega)
                · rw [upd_ne ha]
                  exact hP.1 a o ha h
                · rw [upd_same]
                  have e : z.cps.toList[i]? = some c' := by rw [Array.getElem?_toList]; exact hc'
                  rw [List.take_add_one, e, List.map_append]
                  rfl
              · refine ⟨D, (z.cps.toList.map fun c => decide (c ∈ signs)), rfl, ?_, ?_⟩
                · refine SqL.of ?_
                  have := hP.2
                  rw [show z.cps.size = z.cps.toList.length from rfl, List.take_length] at this
                  rw [this, List.map_map]
                  rfl
                · have e : (z.cps.toList.map fun c => decide (c ∈ signs)).all id = (c :: cs).all fun c => decide (c ∈ signs) := by rw [hc, List.all_map]; rfl
                  rw [e]
                  refine q _ fun a o h => hP.1 a o (fun z => ?_) h
                  rw [z, hD] at h
                  cases h
            · rw [decide_eq_false c3] at q ⊢
              exact iteF (q _ (Ex.refl _))
        · rw [decide_eq_false c2] at q
          rw [decide_eq_false (show ¬ (z.length : Int) ≤ 8 by omega)]
          exact iteT (q _ (Ex.refl _))
      · rw [decide_eq_false c1] at q
        rw [decide_eq_false (show ¬ (1 : Int) ≤ (z.length : Int) by omega)]
        exact iteF ⟨_, rfl, iteT (q _ (Ex.refl _))⟩
    | non => exact iteT (q _ (Ex.refl _))
    | bl b => exact iteT (q _ (Ex.refl _))
    | int i => exact iteT (q _ (Ex.refl _))
    | ref a => exact iteT (q _ (Ex.refl _))
    | byt b => exact hf.elim
    | flt b => exact hf.elim
    | ty n => exact hf.elim
end
end K13
end
section
set_option Elab.async false
set_option linter.all false
set_option maxRecDepth 100000
set_option maxHeartbeats 4000000
namespace PySem
open Sem (wp)
open AutoSeq1 (wpAny_loadPart')
/-- enumerate over a tuple -/
theorem k13_enum_new (l : Addr) (items : Array Value) (n : Nat) (dct : Option Addr) (sl : Array (Option Value)) :
    Meets (Builtin.«enumerate.__new__» ⟨[.type "enumerate", .ref l], []⟩) (fun _ R s => s.heap.get? l = some { cls := .type "tuple", dict := dct, data := .seq items n, slots := sl } ∧
      R (.ok (.ret (.ref (s.heap.push { cls := .type "tuple_iterator", data := .fields #[.ref l, .int 0 0] }).objs.size)))
        { s with heap := (s.heap.push { cls := .type "tuple_iterator", data := .fields #[.ref l, .int 0 0] }).push { cls := .type "enumerate", data := .fields #[.none, .bool false, .ref s.heap.objs.size, rawInt 0, .none, .none] } }) :=
  .of_wp fun prog w A R s h => by
    obtain ⟨hp, g, d, tk, os⟩ := s; obtain ⟨hl, h⟩ := h
    have hs := sub_enumerate
    have hT : Heap.IsTuple (Shared.heap ⟨hp, g, d, tk, os⟩) l items := ⟨_, hl, rfl, n, rfl⟩
    wp_walk using wpAny_loadPart' hl
    refine wpAny_stack_any fun st => wpAny_pure ?_
    split
    · rename_i c _ _ _ _ _
      cases (c == Value.type "enumerate") <;> (wp_walk using wpAny_loadPart' hl, wpAny_pyIter_tuple hT; exact ⟨_, rfl, h⟩)
    · wp_walk using wpAny_loadPart' hl, wpAny_pyIter_tuple hT
      exact ⟨_, rfl, h⟩
theorem k13_call_enum {prog : Program} {w : World} {A : Around} {E : Value → Shared → Prop} {s : Shared} {l : Addr} {items : Array Value} {Q : Value → Shared → Prop} (hL : s.heap.IsTuple l items)
    (h : ∀ h', IsEnum h' (s.heap.objs.size + 1) s.heap.objs.size 0 .none → h'.IsTupleIter s.heap.objs.size l 0 → (∀ b o, s.heap.get? b = some o → h'.get? b = some o) → Q (.ref (s.heap.objs.size + 1)) { s with heap := h' }) :
    wpAny (model prog w) A (call (.type "enumerate") [.ref l]) Q E s := by
  obtain ⟨⟨c, dct, dt, sl⟩, hl, hc, n, hd⟩ := hL
  obtain rfl : c = .type "tuple" := hc
  obtain rfl : dt = .seq items n := hd
  refine callType_new F.called_enumerate (by decide) (F.typeCall_enumerate_1 _) (F.newCall_enumerate_1 _) (fun o => F.args_object_init_2 o _) F.entry_enumerate_new (k13_enum_new l items n dct sl) ⟨hl, ?_⟩
  have hz : (s.heap.push { cls := .type "tuple_iterator", data := .fields #[.ref l, .int 0 0] }).objs.size = s.heap.objs.size + 1 := Heap.size_push ..
  show _ ∧ _
  rw [hz]
  have he : IsEnum ((s.heap.push { cls := .type "tuple_iterator", data := .fields #[.ref l, .int 0 0] }).push { cls := .type "enumerate", data := .fields #[.none, .bool false, .ref s.heap.objs.size, rawInt 0, .none, .none] }) (s.heap.objs.size + 1) s.heap.objs.size 0 .none := by
    have q := Heap.get?_push_size (s.heap.push { cls := .type "tuple_iterator", data := .fields #[.ref l, .int 0 0] }) (o := { cls := .type "enumerate", data := .fields #[.none, .bool false, .ref s.heap.objs.size, rawInt 0, .none, .none] }) rfl
    rw [hz] at q; exact q
  exact ⟨⟨_, he, rfl⟩, h _ he ⟨_, Heap.get?_push_of_some _ (Heap.get?_push_size _ rfl), rfl, rfl⟩ fun b o x => Heap.get?_push_of_some _ (Heap.get?_push_of_some _ x)⟩
end PySem
namespace K13
open PySem PySem.Spec PyProof.Rows L2
open Evl (Ex)
/-- the tuple at a, its items with their places in new pairs -/
def IteT (K : PySem.W.Frag) (a : Addr) : It :=
  ⟨fun i H => ∃ (xs : List V) (x : V), SqT K H a xs ∧ xs[i]? = some x, fun i H v H' => ∃ T x, v = .ref T ∧ H T = none ∧ H' = upd H T (.tup [.int (i : Nat), x]) ∧ ∀ xs, SqT K H a xs → xs[i]? = some x, fun i H => ∃ xs : List V, SqT K H a xs ∧ xs.length = i⟩
theorem turn_enumT {P : Program} {w : World} {K : PySem.W.Frag} {elts : List Expr} {kk : Nat} {tpos : Pos} (a e it : Addr) (hai : a ≠ it) :
    Turn P w K (.Tuple elts kk tpos) (IteT K a) [e, it] e (fun i h => (∃ old, IsEnum h e it ((i : Nat) : Int) old) ∧ h.IsTupleIter it a i ∧ e ≠ it ∧ a ≠ e) where
  mem := List.mem_cons_self
  obj := fun i h st b hb => by
    obtain ⟨⟨old, he⟩, ⟨o, ho, hc, hd⟩, _⟩ := st
    have eb : b = e ∨ b = it := by simpa using hb
    rcases eb with rfl | rfl
    · exact ⟨_, he, fun v q => nomatch q⟩
    · exact ⟨o, ho, fun v q => by rw [hd] at q; cases q⟩
  keep := fun i h h' st k => let ⟨⟨old, he⟩, hi, hne⟩ := st; ⟨⟨old, k e List.mem_cons_self _ he⟩, hi.at fun o q => k it (List.mem_cons_of_mem _ List.mem_cons_self) o q, hne⟩
  item := by
    intro X hP hw hK hc i pins s σ H E I hf st hg
    subst hP hw hK
    obtain ⟨⟨old, he⟩, hit, hne, hae⟩ := st
    obtain ⟨xs, x, hq, hx⟩ := hg
    obtain ⟨its, rv, p, hz⟩ := I.tuple hq
    obtain ⟨u, hu, ru⟩ := rv.get hx
    have hel : e < s.heap.objs.size := Heap.lt_size he
    have hil : it < s.heap.objs.size := by obtain ⟨_, q, _⟩ := hit; exact Heap.lt_size q
    have hlt : i < its.toArray.size := by
      have := (List.getElem?_eq_some_iff.mp hu).1
      simpa using this
    have D := Draws.tuple (prog := X.prog) (w := X.w) (A := X.A.in1) (I.ok.hd hc) it a hai its.toArray
    -- the enumerate's own record is none of the iterator's
    refine wpAny_pyNext_enum_itemD D he ⟨hit, p⟩ hlt hne (by simp [hne, Ne.symm hae]) fun y h' tk hy ho hst hT hsz hk => ?_
    have hyu : y = u := by
      have : its.toArray[i]? = some u := by simpa using hu
      rw [this] at hy
      exact (Option.some.inj hy).symm
    subst hyu
    refine ⟨_, rfl, wpAny_letOwnedTupleGo_enum (s := { s with heap := h', toks := tk + 1 }) ho fun h'' he' sb => ?_⟩
    have hT2 : h''.get? s.heap.objs.size = some { cls := .type "tuple", data := .seq #[.int i tk, y] } := (sb.2 _ (Nat.ne_of_gt hel)).trans hT
    have new : ObjOk X.prog X.w (upd H s.heap.objs.size (.tup [.int (i : Nat), x])) h'' s.heap.objs.size (.tup [.int (i : Nat), x]) :=
      ⟨(by show 2 ≤ sizeLine; decide), [.int i tk, y], .cons ⟨_, rfl⟩ (.cons ru .nil), ⟨_, hT2, rfl, _, rfl⟩⟩
    have I1 : Inv X pins σ (upd H s.heap.objs.size (.tup [.int (i : Nat), x])) { s with heap := h'', toks := tk + 1 } :=
      I.turnedNew (t' := tk + 1) (ch := [e, it]) (fun b ob hb q => (sb.2 b fun z => hb (by simp [z])).trans (hk b ob (fun z => hb (by simp [z])) (fun z => hb (by simp [z])) q)) hf (Nat.le_refl _) new
    refine ⟨.ref s.heap.objs.size, _, I1, rfl, ⟨_, x, rfl, I.hok.fresh (Nat.le_refl _), rfl, fun ys hy => by rw [I.tuple_inj hy hq]; exact hx⟩, ⟨⟨y, ?_⟩, hst.1.at fun o q => (sb.2 it (Ne.symm hne)).trans q, hne, hae⟩, fun b hb => ?_⟩
    · rw [show ((i + 1 : Nat) : Int) = (i : Int) + 1 by omega]; exact he'
    · have hb' : b < s.heap.objs.size := by
        have eb : b = e ∨ b = it := by simpa using hb
        rcases eb with z | z <;> rw [z] <;> assumption
      rw [upd_ne (Nat.ne_of_lt hb')]
      exact (hf b hb).1
  done := by
    intro X hP hw hK hc i pins s σ H E I hf st hg
    subst hP hw hK
    obtain ⟨⟨old, he⟩, hit, hne, hae⟩ := st
    obtain ⟨xs, hq, hx⟩ := hg
    obtain ⟨its, rv, p, hz⟩ := I.tuple hq
    obtain ⟨f0, f1, f2, f3, f4, f5⟩ := hf it (List.mem_cons_of_mem _ List.mem_cons_self)
    have hl := rv.length
    have D := Draws.tuple (prog := X.prog) (w := X.w) (A := X.A.in1) (I.ok.hd hc) it a hai its.toArray
    have hn : its.toArray.size = i := by rw [List.size_toArray, ← hl, hx]
    exact wpAny_pyNext_enum_endD D he ⟨by rw [hn]; exact hit, p⟩ fun h' eb => ⟨rfl, I.turned (t' := s.toks) (fun b o hb q => eb b o hb q) f0 f1 f3 f4 f5⟩
  self := fun A i s Q E st h => let ⟨⟨_, he⟩, _⟩ := st; wpAny_pyIter_enum he h
/-- a dict comprehension's turns, by a word of the turn's number -/
theorem dc_by {J : It} {g : TG} {tt : TT} {tk tv : TE} {vs : List Nat} {σ : L2.St} {H0 : Hp} {D : Addr} {Qd : Hp → Prop} (n : Nat) (Pv : Nat → Hp → Prop) (h0 : Pv 0 (upd H0 D (.dK []))) (hgo : ∀ i H, i < n → Pv i H → J.go i H) (hstop : ∀ H, Pv n H → J.stop n H)
    (hs : ∀ i x H H', i < n → Pv i H → J.yld i H x H' → g x (wipe σ vs) H' fun σ2 H2 => wipe σ2 vs = wipe σ vs ∧ tt σ2 H2 fun b H3 =>
      if b = true then tk σ2 H3 fun y H4 => tv σ2 H4 fun z H5 => ∃ kvs k, y = kV k ∧ H5 D = some (.dK kvs) ∧ kvs.length < sizeLine ∧ Pv (i + 1) (upd H5 D (.dK (putK kvs k z))) else Pv (i + 1) H3) (hd : ∀ H, Pv n H → Qd H) :
    ∃ W : Nat → Nat → Hp → Prop, (∃ m, W 0 m (upd H0 D (.dK []))) ∧ ∀ i m H, W i m H →
      (J.stop i H ∧ Qd H) ∨ (J.go i H ∧ ∃ Nx : Hp → Prop, (∀ H', Nx H' → ∃ m', m' < m ∧ W (i + 1) m' H') ∧ ∀ x H', J.yld i H x H' → g x (wipe σ vs) H' fun σ2 H2 => wipe σ2 vs = wipe σ vs ∧ tt σ2 H2 fun b H3 =>
        if b = true then tk σ2 H3 fun y H4 => tv σ2 H4 fun z H5 => ∃ kvs k, y = kV k ∧ H5 D = some (.dK kvs) ∧ kvs.length < sizeLine ∧ Nx (upd H5 D (.dK (putK kvs k z))) else Nx H3) := by
  refine ⟨fun i m H => i ≤ n ∧ m = n - i ∧ Pv i H, ⟨n, Nat.zero_le _, rfl, h0⟩, fun i m H ⟨hi, hm, hP⟩ => ?_⟩
  by_cases he : i = n
  · subst he
    exact .inl ⟨hstop H hP, hd H hP⟩
  · have hlt : i < n := by omega
    exact .inr ⟨hgo i H hlt hP, Pv (i + 1), fun H' h => ⟨n - (i + 1), by omega, by omega, rfl, h⟩, fun x H' hy => hs i x H H' hlt hP hy⟩
/-! ## t[::-1] of a tuple -/
theorem rev_applied {prog : Program} {w : World} {A : Around} {E : Value → Shared → Prop} {s : Shared} {sl : Addr} {vs : Value} {n : Nat} {Q : Int × Int × Nat → Shared → Prop} (hs : s.heap.IsSliceOf sl .none .none vs) (ps : IsPart vs (some (-1)))
    (h : Q ((n : Int) - 1, -1, n) s) : wpAny (model prog w) A (Builtin.Slice.sliceApplied (.ref sl) (pure (n : Int))) Q E s := by
  obtain ⟨os, hos, hcs, hds⟩ := id hs
  unfold Builtin.Slice.sliceApplied Builtin.Slice.sliceFields
  refine wpAny_bind (wpAny_bind (wpAny_field hos hds (x := .none) rfl (wpAny_bind (wpAny_field hos hds (x := .none) rfl (wpAny_bind (wpAny_field hos hds (x := vs) rfl (wpAny_pure ?_)))))))
  refine wpAny_bind (HT.slicePart_ ps ?_)
  show wpAny _ _ (if ((-1 : Int) == 0) = true then _ else _) _ _ s
  rw [if_neg (by decide)]
  refine wpAny_bind (HT.slicePart_ .none (wpAny_bind (HT.slicePart_ .none (wpAny_bind (wpAny_pure ?_)))))
  have e1 : Builtin.Slice.sliceAdjust none none (-1) (n : Int) = ((n : Int) - 1, -1) := rfl
  show wpAny _ _ (match Builtin.Slice.sliceAdjust none none (-1) (n : Int) with | (lo, hi) => pure (lo, (-1 : Int), Builtin.Slice.slicePlaces lo hi (-1))) _ _ s
  rw [e1]
  have e2 : Builtin.Slice.slicePlaces ((n : Int) - 1) (-1) (-1) = n := by
    show (if (-1 : Int) > 0 then _ else (if (n : Int) - 1 > -1 then ((n : Int) - 1 - -1 - 1) / (- -1) + 1 else 0)).toNat = n
    rw [if_neg (by decide)]
    by_cases hn : (n : Int) - 1 > -1
    · rw [if_pos hn, show (- -1 : Int) = 1 by decide, Int.ediv_one]; omega
    · rw [if_neg hn]; omega
  show wpAny _ _ (pure ((n : Int) - 1, (-1 : Int), Builtin.Slice.slicePlaces ((n : Int) - 1) (-1) (-1))) _ _ s
  rw [e2]
  exact wpAny_pure h
theorem rev_pick (xs : Array Value) : ((List.range xs.size).filterMap fun (m : Nat) => xs[((xs.size : Int) - 1 + (m : Int) * -1).toNat]?).toArray = xs.toList.reverse.toArray := by
  have e := PySem.W.krv_pick xs
  unfold slicePick at e
  rw [PySem.W.krv_bounds] at e
  have e : ((sliceRange ((xs.size : Int) - 1) (-1) (-1)).filterMap (xs[·]?)).toArray = xs.toList.reverse.toArray := e
  rw [PySem.W.krv_sliceRange, List.filterMap_map] at e
  rw [← e]
  congr 2
  funext m
  have : ((xs.size : Int) - 1 + (m : Int) * -1).toNat = xs.size - 1 - m := by omega
  rw [this]
  rfl
theorem getItem_tuple_rev {prog : Program} {w : World} {A : Around} {E : Value → Shared → Prop} {s : Shared} {t sl : Addr} {items : Array Value} {vs : Value} {Q : Value → Shared → Prop} (ht : IsTup s.heap t items) (hs : s.heap.IsSliceOf sl .none .none vs) (ps : IsPart vs (some (-1)))
    (h : Q (.ref s.heap.objs.size) { s with heap := s.heap.push { cls := .type "tuple", data := .seq items.toList.reverse.toArray } }) (hsz : items.size ≤ sizeLine) : wpAny (model prog w) A (getItem (.ref t) (.ref sl)) Q E s := by
  have hok : sizeOk (.seq items.toList.reverse.toArray) := by
    show items.toList.reverse.toArray.size ≤ sizeLine
    rw [List.size_toArray, List.length_reverse, Array.length_toList]
    exact hsz
  obtain ⟨os, hos, hcs, hds⟩ := id hs
  have hTs : s.TypeIs (.ref sl) "slice" := ⟨os, hos, hcs⟩
  unfold getItem
  try with_reducible refine wpAny_holding ?_
  first | refine wpAny_bind (wpAny_pure ?_) | skip
  refine wpAny_bind (wpAny_sequenceKey ht.typeIs (by decide) ?_)
  refine wpAny_bind (wpAny_callSpecial?_slot (name := Str.ofString "__getitem__") ht.typeIs PyProof.Rows.slot_tuple_getitem (wpAny_call_entry PyProof.Rows.slot_tuple_getitem ht.typeIs entry_tuple_getitem ?_ (args_tuple_getitem _ _)))
  show wpAny _ _ (Builtin.Tuple.tupleItemsOf (.ref t) >>= _) _ _ s
  refine wpAny_bind (tupleItemsOf_ ht (wpAny_bind (wpAny_typeOf hTs ?_)))
  rw [if_pos (by decide)]
  refine wpAny_bind (rev_applied hs ps ?_)
  show wpAny _ _ (if (((items.size : Int) - 1) == 0 && (-1 : Int) == 1 && items.size == items.size) = true then _ else _) _ _ s
  rw [if_neg (by simp), rev_pick]
  first
    | exact wpAny_bind (m := Builtin.Tuple.tupleExact _) (wpAny_newObj_type (wpAny_pure ⟨_, rfl, wpAny_pure h⟩) hok)
    | exact wpAny_bind (wpAny_bind (m := Builtin.Tuple.tupleExact _) (wpAny_newObj_type (wpAny_pure (wpAny_pure ⟨_, rfl, wpAny_pure h⟩)) hok))
    | exact wpAny_bind (wpAny_bind (m := Builtin.Tuple.tupleExact _) (wpAny_newObj_type (wpAny_pure ⟨_, rfl, wpAny_pure h⟩) hok))
    | exact wpAny_bind (m := Builtin.Tuple.tupleExact _) (wpAny_newObj_type (wpAny_bind (wpAny_pure (wpAny_pure ⟨_, rfl, wpAny_pure h⟩))) hok)
def tRevT (K : PySem.W.Frag) (te : TE) : TE := fun σ H Q => te σ H fun x H1 => ∃ a xs, x = .ref a ∧ SqT K H1 a xs ∧ ∀ p, H1 p = none → Q (.ref p) (upd H1 p (.tup xs.reverse))
theorem pe_revT {X : Cx} {e : Expr} {te : TE} {k : Nat} {p1 p2 p3 pos : Pos} (he : PE X e te) : PE X (.Subscript e (.Slice none none (some (.UnaryOp .USub (.Constant (.int 1) k p1) p2)) p3) pos) (tRevT X.K te) := by
  refine ⟨fun pins s σ H Q I h => Subscript_ (thn (he.run pins s σ H _ I h) fun v s1 ⟨x, H1, I1, r1, q1⟩ => ?_)⟩
  obtain ⟨a, xs, ex, hx, q⟩ := q1
  subst ex
  obtain rfl : v = Value.ref a := r1
  have hst : PO X (some (.UnaryOp .USub (.Constant (.int 1) k p1) p2)) (tPart (tUn (rU fun i => .int (-i)) (tC (.int 1)))) := po_some (pe_un un_neg pe_int)
  refine wpAny_Slice (thn (po_none.run pins s1 σ H1 (fun o H2 => o = none ∧ H2 = H1) I1 ⟨rfl, rfl⟩) fun vl s2 ⟨l, H2, I2, pl, el, e2⟩ => ?_)
  subst el e2
  refine thn (po_none.run pins s2 σ H2 (fun o H3 => o = none ∧ H3 = H2) I2 ⟨rfl, rfl⟩) fun vu s3 ⟨u, H3, I3, pu, eu, e3⟩ => ?_
  subst eu e3
  refine thn (hst.run pins s3 σ H3 (fun o H4 => o = some (-1) ∧ H4 = H3) I3 ⟨1, rfl, -1, rfl, rfl, rfl⟩) fun vs s4 ⟨o, H4, I4, ps, eo, e4⟩ => ?_
  subst eo e4
  cases pl
  cases pu
  have I5 : Inv X pins σ H4 { s4 with heap := s4.heap.push { cls := .type "slice", data := .fields #[.none, .none, vs] } } := I4.kept (t' := s4.toks) fun b ob q => Heap.get?_push_of_some _ q
  obtain ⟨its, r, ht, hz⟩ := I5.tuple hx
  have hlen := r.length
  show wpAny (model X.prog X.w) X.A (subscriptTail e (.Slice none none (some (.UnaryOp .USub (.Constant (.int 1) k p1) p2)) p3) (.ref a) (.ref s4.heap.objs.size)) (EP X pins σ Q) X.xe { s4 with heap := s4.heap.push { cls := .type "slice", data := .fields #[.none, .none, vs] } }
  refine tail_any (ops := [.ref a, .ref s4.heap.objs.size]) ht.typeIs (PyProof.Rows.slot_tuple_getitem.lookup) ?_ (by with_unfolding_all rfl)
  refine getItem_tuple_rev ht (Heap.IsSliceOf.new _ .none .none vs) ps ?_ (by rw [List.size_toArray]; omega)
  exact ⟨.ref _, _, I5.laid (t' := s4.toks) (o := .tup xs.reverse) (fun b ob q => Heap.get?_push_of_some _ q) (Nat.le_refl _) ⟨by rw [List.length_reverse]; exact hz, _, r.reverse, ⟨_, Heap.get?_push_size _ rfl, rfl, _, rfl⟩⟩, rfl, q _ (I5.hok.fresh (Nat.le_refl _))⟩
end K13
end
section
set_option Elab.async false
set_option linter.all false
set_option maxRecDepth 100000
set_option maxHeartbeats 4000000
namespace K13
open PySem PySem.Spec PyProof.Rows L2
open Evl (Ex)
abbrev R := FM.Row Str
/-- a list (b) or a tuple at a, of the values xs -/
def hoK (b : Bool) (xs : List V) : HO := if b = true then .lst xs else .tup xs
def Sk (b : Bool) (H : Hp) (a : Addr) (xs : List V) : Prop := H a = some (hoK b xs)
theorem Sk.mono {b : Bool} {H H' : Hp} {a : Addr} {xs : List V} (e : Ex H H') (h : Sk b H a xs) : Sk b H' a xs := e _ _ h
theorem Sk.l {H : Hp} {a : Addr} {xs : List V} (h : H a = some (.lst xs)) : Sk true H a xs := h
theorem Sk.t {H : Hp} {a : Addr} {xs : List V} (h : H a = some (.tup xs)) : Sk false H a xs := h
theorem Sk.sq {b : Bool} {K : PySem.W.Frag} {H : Hp} {a : Addr} {xs : List V} (h : Sk b H a xs) : SqL K H a xs ∨ SqT K H a xs := by
  cases b with
  | true => exact .inl (SqL.of h)
  | false => exact .inr (SqT.of h)
/-- what walks such a sequence -/
structure SkIt (b : Bool) (a : Addr) (xs : List V) (J : It) : Prop where
  go : ∀ i H, Sk b H a xs → i < xs.length → J.go i H
  stop : ∀ H, Sk b H a xs → J.stop xs.length H
  yld : ∀ i H x H', Sk b H a xs → J.yld i H x H' → H' = H ∧ xs[i]? = some x
theorem skIt_l {K : PySem.W.Frag} {a : Addr} {xs : List V} : SkIt true a xs (Itl K a) :=
  ⟨fun i H h hi => ⟨xs, xs[i], SqL.of h, by simp [hi]⟩, fun H h => ⟨xs, SqL.of h, Nat.le_refl _⟩, fun i H x H' h hy => ⟨hy.1, hy.2 xs (SqL.of h)⟩⟩
theorem skIt_t {K : PySem.W.Frag} {a : Addr} {xs : List V} : SkIt false a xs (Itt K a) :=
  ⟨fun i H h hi => ⟨xs, xs[i], SqT.of h, by simp [hi]⟩, fun H h => ⟨xs, SqT.of h, Nat.le_refl _⟩, fun i H x H' h hy => ⟨hy.1, hy.2 xs (SqT.of h)⟩⟩
def iSeqA (tl : TE) : TI := fun σ H R => tl σ H fun x H1 => ∃ a b xs, x = .ref a ∧ Sk b H1 a xs ∧ ∀ J, SkIt b a xs J → R J H1
theorem pi_seqA {X : Cx} {tg l : Expr} {tl : TE} (hl : PE X l tl) : PI X tg l (iSeqA tl) := by
  refine ⟨fun pins s σ H R I h => thn (hl.run pins s σ H _ I h) fun v s1 ⟨x, H1, I1, r1, a, b, xs, ex, hq, q⟩ => ?_⟩
  subst ex
  obtain rfl : v = Value.ref a := r1
  have hfp : ∀ b ∈ [s1.heap.objs.size], FpOk X pins H1 b := fun b hb => by
    obtain rfl : b = s1.heap.objs.size := by simpa using hb
    exact I1.fpOk (Nat.le_refl _) (I1.hok.fresh (Nat.le_refl _))
  cases b with
  | true =>
    obtain ⟨its, rv, p, hz⟩ := I1.list (SqL.of hq)
    exact wpAny_pyIter_list p.isList ⟨_, _, _, _, H1, rfl, I1.kept (t' := s1.toks) (fun b o e => Heap.get?_push_of_some _ e), turn_list a _, ⟨_, Heap.get?_push_size _ rfl, rfl, rfl⟩, hfp, q _ skIt_l⟩
  | false =>
    obtain ⟨its, rv, p, hz⟩ := I1.tuple (SqT.of hq)
    exact wpAny_pyIter_tuple (show s1.heap.IsTuple a its.toArray from p) ⟨_, _, _, _, H1, rfl, I1.kept (t' := s1.toks) (fun b o e => Heap.get?_push_of_some _ e), turn_tuple a _, ⟨_, Heap.get?_push_size _ rfl, rfl, rfl⟩, hfp, q _ skIt_t⟩
/-- .. with the places -/
structure SkEn (b : Bool) (a : Addr) (xs : List V) (J : It) : Prop where
  go : ∀ i H, Sk b H a xs → i < xs.length → J.go i H
  stop : ∀ H, Sk b H a xs → J.stop xs.length H
  yld : ∀ i H v H', Sk b H a xs → J.yld i H v H' → ∃ p x, v = .ref p ∧ H p = none ∧ H' = upd H p (.tup [.int (i : Nat), x]) ∧ xs[i]? = some x
theorem skEn_l {K : PySem.W.Frag} {a : Addr} {xs : List V} : SkEn true a xs (Ite K a) :=
  ⟨fun i H h hi => ⟨xs, xs[i], SqL.of h, by simp [hi]⟩, fun H h => ⟨xs, SqL.of h, Nat.le_refl _⟩, fun i H v H' h ⟨p, x, e, n, e', q⟩ => ⟨p, x, e, n, e', q xs (SqL.of h)⟩⟩
theorem skEn_t {K : PySem.W.Frag} {a : Addr} {xs : List V} : SkEn false a xs (IteT K a) :=
  ⟨fun i H h hi => ⟨xs, xs[i], SqT.of h, by simp [hi]⟩, fun H h => ⟨xs, SqT.of h, rfl⟩, fun i H v H' h ⟨p, x, e, n, e', q⟩ => ⟨p, x, e, n, e', q xs (SqT.of h)⟩⟩
/-- enumerate(x), x a list or a tuple -/
def iEnumA (ta : TA) : TI := fun σ H R => ta σ H fun vs H1 => ∃ a b xs, vs = [.ref a] ∧ Sk b H1 a xs ∧ ∀ J, SkEn b a xs J → R J H1
theorem pi_enumA {X : Cx} {e : Expr} {ta : TA} {p pos tpos : Pos} {elts : List Expr} {kk : Nat} (hg : Gl X "enumerate") (hm : X.mg "enumerate" = none) (ha : PA X [e] ta) (hs : starEach [e] X.env = [(false, eval e X.env)] := by rfl) :
    PI X (.Tuple elts kk tpos) (.Call (.Name "enumerate" p) [e] [] pos) (iEnumA ta) := by
  refine ⟨fun pins s σ H R I h => ?_⟩
  refine Call_ (ld_blt I hg hm boot_enumerate (PyProof.Rows.callWith_type1 (thn (ha.run pos pins s σ H _ I h) fun us s1 ⟨vs, H1, I1, r1, q1⟩ => ?_) hs rfl))
  obtain ⟨a, b, xs, ex, hq, q⟩ := q1
  subst ex
  cases r1 with
  | cons r rr =>
    cases rr
    cases r
    have hfp : ∀ b ∈ [s1.heap.objs.size + 1, s1.heap.objs.size], FpOk X pins H1 b := fun b hb => by
      have hle : s1.heap.objs.size ≤ b := by
        have eb : b = s1.heap.objs.size + 1 ∨ b = s1.heap.objs.size := by simpa using hb
        rcases eb with z | z <;> rw [z]
        · exact Nat.le_add_right _ _
        · exact Nat.le_refl _
      exact I1.fpOk hle (I1.hok.fresh hle)
    cases b with
    | true =>
      obtain ⟨its, rv, pl, hz⟩ := I1.list (SqL.of hq)
      refine call_enumerate_list pl.isList fun h' he hit hsz hk => wpAny_pyIter_enum he ?_
      exact ⟨s1.heap.objs.size + 1, _, _, _, H1, rfl, I1.kept (t' := s1.toks) hk, turn_enum a (s1.heap.objs.size + 1) s1.heap.objs.size, ⟨⟨.none, he⟩, hit, Nat.succ_ne_self _⟩, hfp, q _ skEn_l⟩
    | false =>
      obtain ⟨its, rv, pt, hz⟩ := I1.tuple (SqT.of hq)
      have hlt : a < s1.heap.objs.size := by obtain ⟨o, ho, _⟩ := pt; exact Heap.lt_size ho
      refine k13_call_enum pt fun h' he hit hk => wpAny_pyIter_enum he ?_
      exact ⟨s1.heap.objs.size + 1, _, _, _, H1, rfl, I1.kept (t' := s1.toks) hk, turn_enumT a (s1.heap.objs.size + 1) s1.heap.objs.size (Nat.ne_of_lt hlt), ⟨⟨.none, he⟩, hit, Nat.succ_ne_self _, Nat.ne_of_lt (Nat.lt_succ_of_lt hlt)⟩, hfp, q _ skEn_t⟩
/-- for over such a sequence -/
theorem for_sk {b : Bool} {a : Addr} {xs : List V} {J : It} (S : SkIt b a xs J) {g : TG} {tb : TS} {D : Ends} {σ : L2.St} {H : Hp} (Pv : Nat → L2.St → Hp → Prop) (h0 : Pv 0 σ H) (hl : ∀ i σ H, Pv i σ H → Sk b H a xs)
    (hs : ∀ i x σ H, xs[i]? = some x → Pv i σ H → g x σ H fun σ2 H2 => tb { D with nx := Pv (i + 1), ct := Pv (i + 1), bk := D.nx } σ2 H2) (hd : ∀ σ H, Pv xs.length σ H → D.nx σ H) :
    ∃ W : Nat → Nat → L2.St → Hp → Prop, (∃ m, W 0 m σ H) ∧ ∀ i m σ H, W i m σ H →
      (J.stop i H ∧ D.nx σ H) ∨ (J.go i H ∧ ∃ N : L2.St → Hp → Prop, (∀ σ' H', N σ' H' → ∃ m', m' < m ∧ W (i + 1) m' σ' H') ∧ ∀ x H', J.yld i H x H' → g x σ H' fun σ2 H2 => tb { D with nx := N, ct := N, bk := D.nx } σ2 H2) := by
  refine ⟨fun i m σ H => i ≤ xs.length ∧ m = xs.length - i ∧ Pv i σ H, ⟨_, Nat.zero_le _, rfl, h0⟩, fun i m σ H ⟨hi, hm, hP⟩ => ?_⟩
  by_cases he : i = xs.length
  · subst he
    exact .inl ⟨S.stop H (hl _ _ _ hP), hd _ H hP⟩
  · have hlt : i < xs.length := by omega
    refine .inr ⟨S.go i H (hl _ _ _ hP) hlt, Pv (i + 1), fun σ' H' h => ⟨_, by omega, by omega, rfl, h⟩, fun x H' hy => ?_⟩
    obtain ⟨rfl, hx⟩ := S.yld i H x H' (hl _ _ _ hP) hy
    exact hs i x σ _ hx hP
/-! ## rows -/
def rowV (r : R) : List V := [.str r.n, .int r.v, .int r.l]
def RowAt (H : Hp) (v : V) (r : R) : Prop := ∃ q, v = .ref q ∧ H q = some (.tup (rowV r))
def RowsAt (H : Hp) : List V → FM.Rows Str → Prop
  | [], [] => True
  | v :: vs, r :: rs => RowAt H v r ∧ RowsAt H vs rs
  | _, _ => False
theorem RowAt.mono {H H' : Hp} (e : Ex H H') {v : V} {r : R} : RowAt H v r → RowAt H' v r := fun ⟨q, e1, h⟩ => ⟨q, e1, e _ _ h⟩
theorem RowsAt.mono {H H' : Hp} (e : Ex H H') : ∀ {vs : List V} {rs : FM.Rows Str}, RowsAt H vs rs → RowsAt H' vs rs
  | [], [], _ => trivial
  | [], _ :: _, h => h.elim
  | _ :: _, [], h => h.elim
  | _ :: _, _ :: _, ⟨h1, h2⟩ => ⟨h1.mono e, RowsAt.mono e h2⟩
theorem RowsAt.len {H : Hp} : ∀ {vs : List V} {rs : FM.Rows Str}, RowsAt H vs rs → vs.length = rs.length
  | [], [], _ => rfl
  | [], _ :: _, h => h.elim
  | _ :: _, [], h => h.elim
  | _ :: _, _ :: _, ⟨_, h2⟩ => by rw [List.length_cons, List.length_cons, RowsAt.len h2]
theorem RowsAt.get {H : Hp} : ∀ {vs : List V} {rs : FM.Rows Str} {i : Nat} {v : V}, RowsAt H vs rs → vs[i]? = some v → ∃ r, rs[i]? = some r ∧ RowAt H v r
  | [], _, _, _, _, e => by simp at e
  | _ :: _, [], _, _, h, _ => h.elim
  | _ :: _, r :: _, 0, _, ⟨h1, _⟩, e => ⟨r, rfl, by simp at e; rw [← e]; exact h1⟩
  | _ :: _, _ :: _, i + 1, _, ⟨_, h2⟩, e => RowsAt.get (i := i) h2 (by simpa using e)
theorem RowsAt.getR {H : Hp} {vs : List V} {rs : FM.Rows Str} {i : Nat} {r : R} (h : RowsAt H vs rs) (e : rs[i]? = some r) : ∃ v, vs[i]? = some v ∧ RowAt H v r := by
  have hi : i < vs.length := by rw [h.len]; exact (List.getElem?_eq_some_iff.mp e).1
  obtain ⟨r', e', h'⟩ := h.get (i := i) (List.getElem?_eq_getElem hi)
  rw [e] at e'
  cases e'
  exact ⟨_, List.getElem?_eq_getElem hi, h'⟩
theorem RowsAt.app {H : Hp} : ∀ {vs ws : List V} {rs ss : FM.Rows Str}, RowsAt H vs rs → RowsAt H ws ss → RowsAt H (vs ++ ws) (rs ++ ss)
  | [], _, [], _, _, h => h
  | [], _, _ :: _, _, h, _ => h.elim
  | _ :: _, _, [], _, h, _ => h.elim
  | _ :: _, _, _ :: _, _, ⟨h1, h2⟩, h => ⟨h1, h2.app h⟩
theorem RowsAt.take {H : Hp} : ∀ {vs : List V} {rs : FM.Rows Str} (n : Nat), RowsAt H vs rs → RowsAt H (vs.take n) (rs.take n)
  | [], [], n, _ => by first | (rw [List.take_nil, List.take_nil]; trivial) | (rw [List.drop_nil, List.drop_nil]; trivial)
  | [], _ :: _, _, h => h.elim
  | _ :: _, [], _, h => h.elim
  | _ :: _, _ :: _, 0, _ => trivial
  | _ :: _, _ :: _, n + 1, ⟨h1, h2⟩ => ⟨h1, h2.take n⟩
theorem RowsAt.drop {H : Hp} : ∀ {vs : List V} {rs : FM.Rows Str} (n : Nat), RowsAt H vs rs → RowsAt H (vs.drop n) (rs.drop n)
  | [], [], n, _ => by first | (rw [List.take_nil, List.take_nil]; trivial) | (rw [List.drop_nil, List.drop_nil]; trivial)
  | [], _ :: _, _, h => h.elim
  | _ :: _, [], _, h => h.elim
  | _ :: _, _ :: _, 0, h => h
  | _ :: _, _ :: _, n + 1, ⟨_, h2⟩ => h2.drop n
theorem RowsAt.snoc {H : Hp} {vs : List V} {rs : FM.Rows Str} {v : V} {r : R} (h : RowsAt H vs rs) (h1 : RowAt H v r) : RowsAt H (vs ++ [v]) (rs ++ [r]) := h.app (ws := [v]) (ss := [r]) ⟨h1, trivial⟩
/-- a forest's rows -/
def vvOk (v : Int) : Prop := -MV ≤ v ∧ v ≤ MV
def nmOk (n : Str) : Prop := nameOk n = true
abbrev Okf (rs : FM.Rows Str) : Prop := FM.Ok nmOk vvOk rs
theorem Okf.lenS {rs : FM.Rows Str} (o : Okf rs) : ∀ r ∈ rs, r.n.length ≤ 8 := fun r hr => by
  have : nameOk r.n = true := o.gd.nm (FM.key r) (List.mem_map.mpr ⟨r, hr, rfl⟩)
  unfold nameOk at this
  have := (He.ba (He.ba this).2).1
  exact of_decide_eq_true this
theorem nameOk_len {s : Str} (h : nameOk s = true) : s.length ≤ 8 := by
  unfold nameOk at h
  exact of_decide_eq_true (He.ba (He.ba h).2).1
theorem isVal_of {v : Int} (h : vvOk v) : isVal (.int v) = true := by
  show (decide _ && decide _) = true
  rw [decide_eq_true h.1, decide_eq_true h.2]
  rfl
/-! ## is_sequence, row_fault -/
def spIsSeq : Sp := fun vs H Q _ => ∃ b a xs, vs = [.ref a] ∧ Sk b H a xs ∧ ∀ H', Ex H H' → Q (.bl true) H'
def spFault : Sp := fun vs H Q _ => ∃ b a xs rs i, vs = [.ref a, .int (i : Nat)] ∧ Sk b H a xs ∧ RowsAt H xs rs ∧ Okf rs ∧ i < rs.length ∧ ∀ H', Ex H H' → Q .non H'
section
variable {P : Program} {w : World} {K : PySem.W.Frag} {mg : Str → Option Value} {base : Heap}
theorem ok_is_sequence (T : Tx K mg) : GFn P w K mg base "is_sequence" CX0 1 ["thing"] spIsSeq := by
  obtain ⟨fd, F⟩ := T.d_is_sequence
  refine gfn T.g_is_sequence F (F.bindsN fun _ _ _ _ _ _ us hl => match us, hl with | [_], _ => rfl) (ok0 F sc_is_sequence (fun vs H Q E h => ?_) fun cdv A outer s H vs Q E hr h => ?_)
  · obtain ⟨b, a, xs, rfl, _⟩ := h; rfl
  · obtain ⟨b, a, xs, rfl, hS, q⟩ := h
    refine ⟨_, pss_one (ps_ret (pe_callB call_isiT rfl T.z_isinstance b_isinstance (pa_cons (pv 0) (pa_cons (pe_tup (pa_cons (pe_bltn (v := .ty "list") rfl T.z_list b_list rfl) (pa_cons (pe_bltn (v := .ty "tuple") rfl T.z_tuple b_tuple rfl) pa_nil))) pa_nil)))), ?_⟩
    refine ⟨_, rfl, (by show 2 ≤ sizeLine; decide), fun p hp => ?_⟩
    have hne : a ≠ p := ne_of_none hS hp
    have hS' : upd H p (.tup [.ty "list", .ty "tuple"]) a = some (hoK b xs) := by rw [upd_ne hne]; exact hS
    have e : Ex H (upd H p (.tup [.ty "list", .ty "tuple"])) := Ex.new hp
    cases b with
    | true => exact ⟨_, p, _, .type "list", _, true, rfl, upd_same, .cons (.ty _) (.cons (.ty _) .nil), .base (.lst hS'), kitAny_cons (kTT (by decide +kernel)) (fun q => nomatch q) (fun _ => rfl), q _ e⟩
    | false => exact ⟨_, p, _, .type "tuple", _, true, rfl, upd_same, .cons (.ty _) (.cons (.ty _) .nil), .base (.tup hS'), kitAny_cons (kTF (by decide +kernel)) (fun _ => kitAny_cons (kTT (by decide +kernel)) (fun q => nomatch q) fun _ => rfl) (fun q => nomatch q), q _ e⟩
end
end K13
end
section
set_option Elab.async false
set_option linter.all false
set_option maxRecDepth 100000
set_option maxHeartbeats 4000000
namespace K13
open PySem PySem.Spec PyProof.Rows L2
open Evl (Ex)
theorem sk_ix {K : PySem.W.Frag} {b : Bool} {H : Hp} {a : Addr} {xs : List V} {i : Int} {v : V} {Q : VK} (h : Sk b H a xs) (hv : atI xs i = some v) (q : Q v H) : rIxL K (.ref a) (.int i) H Q ∨ rIxT K (.ref a) (.int i) H Q := by
  cases b with
  | true => exact .inl ⟨a, xs, i, v, rfl, rfl, SqL.of h, hv, q⟩
  | false => exact .inr ⟨a, xs, i, v, rfl, rfl, SqT.of h, hv, q⟩
theorem sk_cut {K : PySem.W.Frag} {b : Bool} {H : Hp} {a : Addr} {xs : List V} {lo hi : Option Int} {Q : VK} (h : Sk b H a xs) (hw : ¬ (HT.sIx xs.length 0 lo = 0 ∧ HT.sIx xs.length xs.length hi = xs.length)) (q : ∀ p, H p = none → Q (.ref p) (upd H p (hoK b (cutV xs lo hi)))) :
    rSlL K (.ref a) lo hi H Q ∨ rSlA K (.ref a) lo hi H Q := by
  cases b with
  | true => exact .inl ⟨a, xs, rfl, SqL.of h, q⟩
  | false => exact .inr ⟨a, xs, rfl, SqT.of h, fun z => absurd z hw, fun _ => q⟩
theorem cut_take {xs : List V} {n : Nat} : cutV xs none (some (n : Int)) = xs.take n := by
  unfold cutV
  rw [HT.sIx_none, HT.sIx_nat, List.drop_zero, Nat.sub_zero]
  rcases Nat.le_total n xs.length with h | h
  · rw [Nat.min_eq_left h]
  · rw [Nat.min_eq_right h, List.take_length, List.take_of_length_le h]
theorem cut_drop {xs : List V} {n : Nat} : cutV xs (some (n : Int)) none = xs.drop n := by
  unfold cutV
  rw [HT.sIx_none, HT.sIx_nat]
  rcases Nat.le_total n xs.length with h | h
  · rw [Nat.min_eq_left h, List.take_of_length_le (by rw [List.length_drop]; exact Nat.le_refl _)]
  · rw [Nat.min_eq_right h, List.drop_length, List.drop_of_length_le h, List.take_nil]
theorem cut_mid {xs : List V} {n m : Nat} : cutV xs (some (n : Int)) (some ((n + m : Nat) : Int)) = (xs.drop n).take m := by
  unfold cutV
  rw [HT.sIx_nat, HT.sIx_nat]
  rcases Nat.le_total n xs.length with h | h
  · rw [Nat.min_eq_left h]
    rcases Nat.le_total (n + m) xs.length with h2 | h2
    · rw [Nat.min_eq_left h2, show n + m - n = m by omega]
    · rw [Nat.min_eq_right h2, List.take_of_length_le (by rw [List.length_drop]; exact Nat.le_refl _), List.take_of_length_le (by rw [List.length_drop]; omega)]
  · rw [Nat.min_eq_right h, Nat.min_eq_right (by omega), List.drop_length, List.drop_of_length_le h]
    simp
theorem inV_strs {n : Str} : ∀ {l : List Str}, inV (.str n) (l.map V.str) = decide (n ∈ l)
  | [] => rfl
  | x :: l => by
    have ih := inV_strs (n := n) (l := l)
    have e : inV (.str n) ((x :: l).map V.str) = (eqV (.str x) (.str n) || inV (.str n) (l.map V.str)) := rfl
    rw [e, ih]
    have e2 : eqV (.str x) (.str n) = decide (x = n) := by first | rfl | simp [eqV]
    rw [e2]
    by_cases h : x = n
    · subst h; simp
    · have h' : ¬ n = x := fun q => h q.symm
      simp [h, h']
theorem flat_strs : ∀ {l : List Str}, (l.map V.str).all flatV = true
  | [] => rfl
  | x :: l => by rw [List.map_cons, List.all_cons, flat_strs (l := l)]; rfl
theorem steps_get : ∀ {rs : FM.Rows Str} {a : Int} {i : Nat} {r : R}, FM.Steps a rs → rs[i]? = some r → 0 ≤ r.l ∧ (i = 0 → r.l ≤ a + 1) ∧ ∀ r', 0 < i → rs[i - 1]? = some r' → r.l ≤ r'.l + 1
  | [], _, _, _, _, e => by simp at e
  | x :: rs, a, 0, r, ⟨h0, h1, _⟩, e => by
    have e : x = r := by simpa using e
    subst e
    exact ⟨h0, fun _ => h1, fun r' h _ => absurd h (by omega)⟩
  | x :: rs, a, i + 1, r, ⟨_, _, h2⟩, e => by
    have ih := steps_get (i := i) h2 (by simpa using e)
    refine ⟨ih.1, fun h => by omega, fun r' _ e' => ?_⟩
    rw [show i + 1 - 1 = i by omega] at e'
    cases i with
    | zero =>
      have e' : x = r' := by simpa using e'
      rw [← e']
      exact ih.2.1 rfl
    | succ j => exact ih.2.2 r' (by omega) (by simpa using e')
section
variable {P : Program} {w : World} {K : PySem.W.Frag} {mg : Str → Option Value} {base : Heap}
theorem ok_row_fault (T : Tx K mg) : GFn P w K mg base "row_fault" CX0 3 ["rows", "place"] spFault := by
  obtain ⟨fd, F⟩ := T.d_row_fault
  refine gfn T.g_row_fault F (F.bindsN fun _ _ _ _ _ _ us hl => match us, hl with | [_, _], _ => rfl) (ok0 F sc_row_fault (fun vs H Q E h => ?_) fun cdv A outer s H vs Q E hr h => ?_)
  · obtain ⟨b, a, xs, rs, i, rfl, _⟩ := h; rfl
  · obtain ⟨b, a, xs, rs, i, rfl, hS, hR, o, hi, q⟩ := h
    refine ⟨_, pss_cons (ps_set (i := 2) sc_row_fault.nd rfl (.inl rfl) (pe_ix (ix_list.or ix_tup) (pv 0) (pv 1) (fun _ _ => rfl)))
      (pss_cons (ps_if (PW.pt (pw_or (pt_not (pt_val (pe_g (ok_is_sequence T) hr pass0 (pa_cons (pv 2) pa_nil)))) (pw_or1 (pt_cmpR op_ne (pe_callB call_len_seq rfl T.z_len b_len (pa_cons (pv 2) pa_nil)) pe_int (nomark _))))) (pss_one (ps_ret pe_str)) pss_nil)
      (pss_cons (ps_asg (pv 2) (pg_tup rfl (pgs_cons (pg_name (i := 3) sc_row_fault.nd rfl (.inl rfl)) (pgs_cons (pg_name (i := 4) sc_row_fault.nd rfl (.inl rfl)) (pgs_cons (pg_name (i := 5) sc_row_fault.nd rfl (.inl rfl)) pgs_nil)))))
      (pss_cons (ps_if (pt_not (pt_val (pe_g (ok_is_name T) hr pass0 (pa_cons (pv 3) pa_nil)))) (pss_one (ps_ret pe_str)) pss_nil)
      (pss_cons (ps_if (pt_not (pt_val (pe_g (ok_is_value T) hr pass0 (pa_cons (pv 4) pa_nil)))) (pss_one (ps_ret pe_str)) pss_nil)
      (pss_cons (ps_if (PW.pt (pw_or (pt_not (pt_val (pe_g (ok_is_integer T) hr pass0 (pa_cons (pv 5) pa_nil)))) (pw_or1 (pt_not (pt_chain op_le op_le pe_int (pv 5)
          (pe_ifExp (pt_cmpR op_gt (pv 1) pe_int (nomark _)) (pe_op op_add (pe_ix ix_tup (pe_ix (ix_list.or ix_tup) (pv 0) (pe_op op_sub (pv 1) pe_int) (fun _ _ => rfl)) pe_int (fun _ _ => rfl)) pe_int) pe_int)))))) (pss_one (ps_ret pe_str)) pss_nil)
      (pss_one (ps_ret (pe_ifExp (pt_cmpR op_in_seq (pv 3) (pe_lc (own := [("other", 6)]) (g := gName 6) (tt := tYes) rfl sc_row_fault.nd (pi_seqA (pe_slice (sl_list.or sl_tupA) (pv 0) po_none (po_some (pv 1)))) (blkOk_by (N := N_row_fault) (sc := defScope st_row_fault) (by decide +kernel)) (fun _ _ _ _ _ => pg_name (i := 6) sc_row_fault.nd rfl (Or.inl rfl)) (fun _ _ _ _ _ => pts_nil)
          (fun _ _ _ _ _ => pe_ix (r := rIxT K) ix_tup (pv 6) pe_int (fun _ _ => rfl))) (by rfl)) pe_str pe_non)))))))), ?_⟩
    have hlen := hR.len
    have hr0 : rs[i]? = some rs[i] := List.getElem?_eq_getElem hi
    obtain ⟨v, hv, p, rfl, hp⟩ := hR.getR hr0
    have hmem : rs[i] ∈ rs := List.getElem_mem hi
    have hn : nameOk rs[i].n = true := o.gd.nm (FM.key rs[i]) (List.mem_map.mpr ⟨_, hmem, rfl⟩)
    have hvv : vvOk rs[i].v := o.gd.vv (FM.key rs[i]) (List.mem_map.mpr ⟨_, hmem, rfl⟩)
    obtain ⟨l0, l1, l2⟩ := steps_get o.st hr0
    have hxs : xs.length ≤ 60 := by rw [hlen]; exact o.len
    -- row = rows[place]
    refine ⟨_, rfl, _, rfl, sk_ix hS (atI_nat hv) ?_⟩
    refine ⟨_, rfl, false, p, _, rfl, Sk.t hp, fun H1 e1 => ⟨_, rfl, iteF ?_⟩⟩
    refine ⟨_, rfl, p, _, rfl, .inr (SqT.of (e1 _ _ hp)), rfl, _, rfl, iteF ?_⟩
    refine ⟨_, rfl, p, _, rfl, SqT.of (e1 _ _ hp), rfl, _, _, rfl, _, _, rfl, _, _, rfl, rfl, ?_⟩
    -- the name, the value
    refine ⟨_, rfl, .str rs[i].n, rfl, (by have := nameOk_len hn; show rs[i].n.length ≤ 100000; omega), fun H2 e2 => ⟨isNam (.str rs[i].n), rfl, ?_⟩⟩
    refine iteB (congrArg (!·) (show isNam (.str rs[i].n) = true from hn)) (iteF ⟨_, rfl, .int rs[i].v, rfl, trivial, _, rfl, ?_⟩)
    -- the level
    refine iteB (congrArg (!·) (isVal_of hvv)) <| iteF ⟨_, rfl, .int rs[i].l, rfl, trivial, _, rfl, iteF ?_⟩
    have e02 : Ex H H2 := e1.trans e2
    refine ⟨_, rfl, _, _, rfl, rfl, _, rfl, iteD l0 ?_⟩
    have fin : ∀ H3, Ex H H3 → (tRet (tIf (tTest (tOp (rIn K false) (tVar 3) (tLc (iSeqA (tSl (fun x lo hi H Q => rSlL K x lo hi H Q ∨ rSlA K x lo hi H Q) (tVar 0) tNoPart (tPart (tVar 1)))) (gName 6) tYes (tOp (rIxT K) (tVar 6) (tC (.int 0))) [6]))) (tC (.str "twice")) (tC .non)))
        { nx := fun _ H' => Q .non H', rt := Q } [some (.ref a), some (.int (i : Nat)), some (.ref p), some (.str rs[i].n), some (.int rs[i].v), some (.int rs[i].l), none] H3 := fun H3 e3 => by
      refine ⟨_, rfl, _, rfl, _, rfl, _, rfl, sk_cut (hS.mono e3) (fun z => ?_) fun c hc => ?_⟩
      · have := z.2
        rw [HT.sIx_nat] at this
        omega
      · rw [cut_take]
        refine ⟨c, b, xs.take i, rfl, upd_same, fun J S D hD => ?_⟩
        have hDc : D ≠ c := fun z => by rw [z, upd_same] at hD; cases hD
        refine lc_by (xs.take i).length (fun j H' => (∀ b' o', b' ≠ D → upd H3 c (hoK b (xs.take i)) b' = some o' → H' b' = some o') ∧ H' D = some (.lst (((FM.names rs).take j).map V.str))) ⟨fun b' o' ne h => by rw [upd_ne ne]; exact h, upd_same⟩
          (fun j H' hj hP => S.go j H' (hP.1 c _ (Ne.symm hDc) upd_same) hj) (fun H' hP => S.stop H' (hP.1 c _ (Ne.symm hDc) upd_same)) (fun j x H' H'' hj hP hy => ?_) fun H' hP => ?_
        · obtain ⟨rfl, hx⟩ := S.yld j H' x H'' (hP.1 c _ (Ne.symm hDc) upd_same) hy
          have hji : j < i := by rw [List.length_take] at hj; omega
          rw [List.getElem?_take, if_pos hji] at hx
          obtain ⟨r, hr', q', rfl, hq'⟩ := hR.get hx
          have hq3 := e3 _ _ hq'
          have hqc : q' ≠ c := ne_of_none hq3 hc
          have hqD : q' ≠ D := fun z => by
            rw [z] at hq3 hqc
            rw [upd_ne hqc] at hD
            rw [hD] at hq3
            cases hq3
          refine ⟨rfl, _, rfl, q', _, _, _, rfl, rfl, SqT.of (hP.1 q' _ hqD (by rw [upd_ne hqc]; exact hq3)), atI_nat (j := 0) rfl, _, hP.2, ?_, fun b' o' ne h => ?_, ?_⟩
          · rw [List.length_map, List.length_take]
            have : (FM.names rs).length ≤ 60 := by unfold FM.names; rw [List.length_map]; exact o.len
            exact szLt (by omega)
          · rw [upd_ne ne]
            exact hP.1 b' o' ne h
          · rw [upd_same]
            have e : (FM.names rs)[j]? = some r.n := by unfold FM.names; rw [List.getElem?_map, hr']; rfl
            rw [List.take_add_one, e, List.map_append]
            rfl
        · refine ⟨D, _, rfl, .inl (SqL.of hP.2), rfl, flat_strs, _, rfl, iteB inV_strs ?_⟩
          have hno : rs[i].n ∉ (FM.names rs).take (xs.take i).length := fun z => by
            have nd := o.nd
            rw [List.length_take, Nat.min_eq_left (by omega)] at z
            have e := List.take_append_drop i (FM.names rs)
            rw [← e, List.nodup_append] at nd
            refine nd.2.2 _ z rs[i].n ?_ rfl
            have : (FM.names rs)[i]? = some rs[i].n := by unfold FM.names; rw [List.getElem?_map, hr0]; rfl
            rw [List.mem_iff_getElem?]
            exact ⟨0, by rw [List.getElem?_drop]; exact this⟩
          refine iteDn hno (q _ fun b' o' h => ?_)
          have hb1 : b' ≠ c := ne_of_none (e3 _ _ h) hc
          have hb2 : b' ≠ D := fun z => by
            have h3 := e3 _ _ h
            rw [z] at h3 hb1
            rw [upd_ne hb1] at hD
            rw [hD] at h3
            cases h3
          exact hP.1 b' o' hb2 (by rw [upd_ne hb1]; exact e3 _ _ h)
    by_cases h0 : i = 0
    · subst h0
      have := l1 rfl
      exact ⟨_, rfl, _, _, rfl, rfl, _, rfl, iteF ⟨_, _, rfl, rfl, _, rfl, iteND (show rs[0].l ≤ (0 : Int) by omega) (fin H2 e02)⟩⟩
    · have hi1 : i - 1 < rs.length := by omega
      obtain ⟨v1, hv1, p1, rfl, hp1⟩ := hR.getR (List.getElem?_eq_getElem hi1)
      refine ⟨_, rfl, _, _, rfl, rfl, _, rfl, iteD (show (0 : Int) < (i : Int) by omega) ?_⟩
      refine ⟨_, rfl, _, rfl, _, _, rfl, rfl, sk_ix (hS.mono e02) (v := .ref p1) (i := (i : Int) - 1) ?_ ⟨p1, _, _, _, rfl, rfl, SqT.of (e02 _ _ hp1), atI_nat (j := 2) rfl, _, _, rfl, rfl, _, _, rfl, rfl, ?_⟩⟩
      · rw [show (i : Int) - 1 = ((i - 1 : Nat) : Int) by omega]
        exact atI_nat hv1
      · exact ⟨_, rfl, iteND (l2 rs[i - 1] (by omega) (List.getElem?_eq_getElem hi1)) (fin H2 e02)⟩
end
end K13
end
section
set_option Elab.async false
set_option linter.all false
set_option maxRecDepth 100000
set_option maxHeartbeats 4000000
namespace K13
open PySem PySem.Spec PyProof.Rows L2
open Evl (Ex)
abbrev CF (K : PySem.W.Frag) : Addr := He.ga K "Forest"
/-- a forest's fields -/
def ff (r o d : Addr) : List (Str × V) := putF "spots" (.ref d) (putF "order" (.ref o) (putF "rows" (.ref r) []))
theorem ff_rows {r o d : Addr} : (ff r o d).lookup ("rows" : Str) = some (.ref r) := by
  unfold ff
  rw [lookup_putF, if_neg (by decide +kernel), lookup_putF, if_neg (by decide +kernel), lookup_putF, if_pos rfl]
theorem ff_order {r o d : Addr} : (ff r o d).lookup ("order" : Str) = some (.ref o) := by
  unfold ff
  rw [lookup_putF, if_neg (by decide +kernel), lookup_putF, if_pos rfl]
theorem ff_spots {r o d : Addr} : (ff r o d).lookup ("spots" : Str) = some (.ref d) := by
  unfold ff
  rw [lookup_putF, if_pos rfl]
theorem ff_no {r o d : Addr} {m : Str} (h1 : ¬ m = "rows") (h2 : ¬ m = "order") (h3 : ¬ m = "spots") : (ff r o d).lookup m = none := by
  unfold ff
  rw [lookup_putF, if_neg h3, lookup_putF, if_neg h2, lookup_putF, if_neg h1]
  rfl
/-- at p a forest of the rows rs -/
structure FAt (K : PySem.W.Frag) (H : Hp) (p : Addr) (rs : FM.Rows Str) (dx r o d : Addr) (vs : List V) (kvs : List (Key × V)) : Prop where
  ins : H p = some (.ins (CF K) dx (ff r o d))
  rows : H r = some (.tup vs)
  at_ : RowsAt H vs rs
  order : H o = some (.tup ((FM.names rs).map V.str))
  spots : H d = some (.dK kvs)
  val : ∀ n : Str, valV kvs (Sum.inr n) = if n ∈ FM.names rs then some (.int ((FM.pl rs n : Nat) : Int)) else none
def ForestAt (K : PySem.W.Frag) (H : Hp) (p : Addr) (rs : FM.Rows Str) : Prop := ∃ dx r o d vs kvs, FAt K H p rs dx r o d vs kvs
theorem FAt.mono {K : PySem.W.Frag} {H H' : Hp} (e : Ex H H') {p : Addr} {rs : FM.Rows Str} {dx r o d : Addr} {vs : List V} {kvs : List (Key × V)} (F : FAt K H p rs dx r o d vs kvs) : FAt K H' p rs dx r o d vs kvs :=
  ⟨e _ _ F.ins, e _ _ F.rows, F.at_.mono e, e _ _ F.order, e _ _ F.spots, F.val⟩
theorem ForestAt.mono {K : PySem.W.Frag} {H H' : Hp} (e : Ex H H') {p : Addr} {rs : FM.Rows Str} : ForestAt K H p rs → ForestAt K H' p rs := fun ⟨dx, r, o, d, vs, kvs, F⟩ => ⟨dx, r, o, d, vs, kvs, F.mono e⟩
theorem most_ok {K : PySem.W.Frag} {mg : Str → Option Value} (T : Tx K mg) : ∃ t, PySem.W.findCls K (.ref (CF K)) (.type "type") "MOST" = some (.val (.int 60 t)) := by
  have h := T.most
  unfold mostB at h
  split at h
  · rename_i i t e
    have := of_decide_eq_true h
    subst this
    exact ⟨t, e⟩
  · cases h
def rTupOf (K : PySem.W.Frag) : List V → Hp → VK → Prop := fun xs H Q => ∃ p ys, xs = [.ref p] ∧ ((SqL K H p ys ∧ ∀ l, H l = none → Q (.ref l) (upd H l (.tup ys))) ∨ (SqT K H p ys ∧ Q (.ref p) H))
theorem call_tup {X : Cx} : CallR X (.type "tuple") (rTupOf X.K) := call_tuple_of
def spInit (K : PySem.W.Frag) : Sp := fun vs H Q _ => ∃ p dx b a xs rs, vs = [.ref p, .ref a] ∧ H p = some (.ins (CF K) dx []) ∧ Sk b H a xs ∧ RowsAt H xs rs ∧ Okf rs ∧
  ∀ H', (∀ b o, b ≠ p → H b = some o → H' b = some o) → ForestAt K H' p rs → Q .non H'
theorem names_len (rs : FM.Rows Str) : (FM.names rs).length = rs.length := by unfold FM.names; rw [List.length_map]
theorem names_get {rs : FM.Rows Str} {i : Nat} {r : R} (h : rs[i]? = some r) : (FM.names rs)[i]? = some r.n := by unfold FM.names; rw [List.getElem?_map, h]; rfl
theorem pl_get {rs : FM.Rows Str} (nd : (FM.names rs).Nodup) {i : Nat} {r : R} (h : rs[i]? = some r) : FM.pl rs r.n = i := by
  obtain ⟨hi, e⟩ := List.getElem?_eq_some_iff.mp (names_get h)
  unfold FM.pl
  rw [← e]
  exact List.Nodup.idxOf_getElem nd i hi
/-- all but p is as it was, and more -/
def Bt (p : Addr) (H H' : Hp) : Prop := ∀ b o, b ≠ p → H b = some o → H' b = some o
theorem Bt.refl {p : Addr} {H : Hp} : Bt p H H := fun _ _ _ h => h
theorem Bt.trans {p : Addr} {H H1 H2 : Hp} (a : Bt p H H1) (b : Bt p H1 H2) : Bt p H H2 := fun x o n h => b x o n (a x o n h)
theorem Bt.of {p : Addr} {H H' : Hp} (e : Ex H H') : Bt p H H' := fun b o _ h => e b o h
theorem Bt.new {p q : Addr} {H H' : Hp} {o : HO} (a : Bt p H H') (h : H' q = none) : Bt p H (upd H' q o) := fun b u n e => by
  have := a b u n e
  rw [upd_ne (ne_of_none this h)]
  exact this
theorem Bt.at_ {p : Addr} {H H' : Hp} {o : HO} (a : Bt p H H') : Bt p H (upd H' p o) := fun b u n e => by rw [upd_ne n]; exact a b u n e
theorem Bt.mut {p q : Addr} {H H' : Hp} {o : HO} (a : Bt p H H') (h : H q = none) : Bt p H (upd H' q o) := fun b u n e => by
  rw [upd_ne (ne_of_none e h)]
  exact a b u n e
theorem Bt.ex {p : Addr} {H H' : Hp} (h : Bt p H H') (n : H p = none) : Ex H H' := fun b o e => h b o (ne_of_none e n) e
theorem RowAt.bt {p : Addr} {C dx : Addr} {fs : List (Str × V)} {H H' : Hp} (hp : H p = some (.ins C dx fs)) (e : Bt p H H') {v : V} {r : R} : RowAt H v r → RowAt H' v r := fun ⟨q, e1, h⟩ => ⟨q, e1, e _ _ (ne_of h hp (by intro z; cases z)) h⟩
theorem RowsAt.bt {p : Addr} {C dx : Addr} {fs : List (Str × V)} {H H' : Hp} (hp : H p = some (.ins C dx fs)) (e : Bt p H H') : ∀ {vs : List V} {rs : FM.Rows Str}, RowsAt H vs rs → RowsAt H' vs rs
  | [], [], _ => trivial
  | [], _ :: _, h => h.elim
  | _ :: _, [], h => h.elim
  | _ :: _, _ :: _, ⟨h1, h2⟩ => ⟨h1.bt hp e, RowsAt.bt hp e h2⟩
theorem Sk.ne_ins {b : Bool} {H : Hp} {a p C dx : Addr} {xs : List V} {fs : List (Str × V)} (h : Sk b H a xs) (hp : H p = some (.ins C dx fs)) : a ≠ p := ne_of h hp (by intro z; cases b <;> cases z)
section
variable {P : Program} {w : World} {K : PySem.W.Frag} {mg : Str → Option Value} {base : Heap}
theorem ok_Forest_init (T : Tx K mg) : KFn P w K mg base "Forest" (CF K) CX0 4 ["self", "rows"] (spInit K) := by
  obtain ⟨fd, F⟩ := T.d_F_init_
  refine ⟨_, fd, T.g_Forest, T.mk_Forest, F.bindsN fun _ _ _ _ _ _ us hl => match us, hl with | [_, _], _ => rfl, ok0 F sc_F_init_ (fun vs H Q E h => ?_) fun cdv A outer s H vs Q E hr h => ?_⟩
  · obtain ⟨p, dx, b, a, xs, rs, rfl, _⟩ := h; rfl
  · obtain ⟨p, dx, b, a, xs, rs, rfl, hp, hS, hR, o, q⟩ := h
    obtain ⟨mt, hM⟩ := most_ok T
    refine ⟨_, pss_cons (ps_if (PW.pt (pw_or (pt_not (pt_val (pe_g (ok_is_sequence T) hr pass0 (pa_cons (pv 1) pa_nil)))) (pw_or1 (pt_cmpR op_gt (pe_callB call_len_seq rfl T.z_len b_len (pa_cons (pv 1) pa_nil)) (ClX.pe_cval (pe_glob (v := .ref (CF K)) rfl T.g_Forest rfl)) (nomark _))))) (pss_one ps_never) pss_nil)
      (Evl.pss_cut (ps_for PassesOwn.never rfl (pi_range1 rfl T.z_range (pa_cons (pe_callB call_len_seq rfl T.z_len b_len (pa_cons (pv 1) pa_nil)) pa_nil)) (pg_name (i := 2) sc_F_init_.nd rfl (.inl rfl))
        (pss_cons (ps_set (i := 3) sc_F_init_.nd rfl (.inl rfl) (pe_g (ok_row_fault T) hr pass0 (pa_cons (pv 1) (pa_cons (pv 2) pa_nil)))) (pss_one (ps_if (pt_cmpR op_notN (pv 3) pe_non (nomark _)) (pss_one ps_never) pss_nil))))
      (Evl.pss_cut (ps_fld (pv 0) (pe_callTy call_tup rfl T.z_tuple b_tuple (pa_cons (pe_lc (own := [("row", 4)]) (g := gName 4) (tt := tYes) rfl sc_F_init_.nd (pi_seqA (pv 1)) (blkOk_by (N := N_F_init_) (sc := defScope st_F_init_) (by decide +kernel)) (fun _ _ _ _ _ => pg_name (i := 4) sc_F_init_.nd rfl (.inl rfl)) (fun _ _ _ _ _ => pts_nil)
          (fun _ _ _ _ _ => pe_callTy (r := rTupOf K) call_tup rfl T.z_tuple b_tuple (pa_cons (pv 4) pa_nil))) pa_nil)) rfl)
      (Evl.pss_cut (ps_fld (pv 0) (pe_callTy call_tup rfl T.z_tuple b_tuple (pa_cons (pe_lc (own := [("row", 4)]) (g := gName 4) (tt := tYes) rfl sc_F_init_.nd (pi_seqA (pv 1)) (blkOk_by (N := N_F_init_) (sc := defScope st_F_init_) (by decide +kernel)) (fun _ _ _ _ _ => pg_name (i := 4) sc_F_init_.nd rfl (.inl rfl)) (fun _ _ _ _ _ => pts_nil)
          (fun _ _ _ _ _ => pe_ix (r := rIxT K) ix_tup (pv 4) pe_int (fun _ _ => rfl))) pa_nil)) rfl)
      (pss_one (ps_fld (pv 0) (pe_dc (own := [("place", 2), ("row", 4)]) (g := gTup K 2 (gCons (gName 2) (gCons (gName 4) gNil))) (tt := tYes) rfl sc_F_init_.nd (pi_enumA rfl T.z_enumerate (pa_cons (pv 1) pa_nil)) (blkOk_by (N := N_F_init_) (sc := defScope st_F_init_) (by decide +kernel))
          (fun _ _ _ _ _ => pg_tup rfl (pgs_cons (pg_name (i := 2) sc_F_init_.nd rfl (.inl rfl)) (pgs_cons (pg_name (i := 4) sc_F_init_.nd rfl (.inl rfl)) pgs_nil))) (fun _ _ _ _ _ => pts_nil) (fun _ _ _ _ _ => pe_ix (r := rIxT K) ix_tup (pv 4) pe_int (fun _ _ => rfl)) (fun _ _ _ _ _ => pv 2)) rfl))))), ?_⟩
    have hlen := hR.len
    have hxs : xs.length ≤ 60 := by rw [hlen]; exact o.len
    have hap : a ≠ p := hS.ne_ins hp
    refine ⟨_, rfl, b, a, xs, rfl, hS, fun H1 e1 => ⟨_, rfl, iteF ?_⟩⟩
    refine ⟨_, rfl, a, xs, rfl, (hS.mono e1).sq, CF K, .type "type", .int 60, _, rfl, ⟨T.most_rd, T.most_ga⟩, ⟨hM, ⟨_, rfl⟩⟩, _, _, rfl, rfl, _, rfl, iteDn (by omega) ?_⟩
    -- the rows are those of a forest
    refine ⟨fun σ H' => (∃ v2 v3, σ = [some (.ref p), some (.ref a), v2, v3, none]) ∧ Ex H H', ⟨_, rfl, a, xs, rfl, (hS.mono e1).sq, _, rfl, by omega, by omega, ?_⟩, ?_⟩
    · rw [show ((xs.length : Nat) : Int).toNat = xs.length by omega]
      refine for_range (lo := 0) (n := xs.length) (fun i σ H' => (∃ v2 v3, σ = [some (.ref p), some (.ref a), v2, v3, none]) ∧ Ex H H') ⟨⟨none, none, rfl⟩, e1⟩ ?_ fun σ H' h => h
      rintro i σ H' hi ⟨⟨v2, v3, rfl⟩, e⟩
      refine ⟨_, rfl, _, rfl, b, a, xs, rs, i, (by rw [Int.zero_add]; rfl), hS.mono e, hR.mono e, o, by omega, fun H2 e2 => ?_⟩
      exact ⟨_, rfl, rfl, _, rfl, iteF ⟨⟨_, _, rfl⟩, e.trans e2⟩⟩
    rintro σ H2 ⟨⟨v2, v3, rfl⟩, e2⟩
    -- self.rows = tuple([tuple(row) for row in rows])
    refine ⟨fun σ H' => σ = [some (.ref p), some (.ref a), v2, v3, none] ∧ Bt p H H' ∧ ∃ r, H' p = some (.ins (CF K) dx (putF "rows" (.ref r) [])) ∧ H' r = some (.tup xs), ?_, ?_⟩
    · refine ⟨_, rfl, a, b, xs, rfl, hS.mono e2, fun J S D hD => ?_⟩
      refine lc_by xs.length (fun i H' => Bt D H2 H' ∧ H' D = some (.lst (xs.take i))) ⟨Bt.refl.at_, upd_same⟩ (fun i H' hi hP => S.go i H' ((hS.mono e2).mono (hP.1.ex hD)) hi) (fun H' hP => S.stop H' ((hS.mono e2).mono (hP.1.ex hD))) (fun i x H' H'' hi hP hy => ?_) fun H' hP => ?_
      · obtain ⟨rfl, hx⟩ := S.yld i H' x H'' ((hS.mono e2).mono (hP.1.ex hD)) hy
        obtain ⟨r, hr', q', rfl, hq'⟩ := hR.get hx
        refine ⟨rfl, _, rfl, q', _, rfl, .inr ⟨SqT.of (hP.1.ex hD _ _ (e2 _ _ hq')), _, hP.2, szLt (by rw [List.length_take]; omega), hP.1.at_, ?_⟩⟩
        rw [upd_same, List.take_add_one, hx]
        rfl
      · have e3 : Ex H H' := e2.trans (hP.1.ex hD)
        have hD' := hP.2
        rw [List.take_length] at hD'
        refine ⟨D, xs, rfl, .inl ⟨SqL.of hD', fun l hl => ⟨_, rfl, p, CF K, dx, [], rfl, ?_, T.cl_Forest, T.no_Forest_rows, (by decide), rfl, ?_, l, upd_same, ?_⟩⟩⟩
        · rw [upd_ne (ne_of_none (e3 _ _ hp) hl)]
          exact e3 _ _ hp
        · exact ((Bt.of e3).new hl).at_
        · rw [upd_ne (Ne.symm (ne_of_none (e3 _ _ hp) hl)), upd_same]
    rintro σ H3 ⟨rfl, b3, r, hp3, hr3⟩
    have hS3 : Sk b H3 a xs := b3 _ _ hap hS
    have hR3 : RowsAt H3 xs rs := hR.bt hp b3
    -- self.order = tuple([row[0] for row in rows])
    refine ⟨fun σ H' => σ = [some (.ref p), some (.ref a), v2, v3, none] ∧ Bt p H H' ∧ ∃ r o, H' p = some (.ins (CF K) dx (putF "order" (.ref o) (putF "rows" (.ref r) []))) ∧ H' r = some (.tup xs) ∧ H' o = some (.tup ((FM.names rs).map V.str)), ?_, ?_⟩
    · refine ⟨_, rfl, a, b, xs, rfl, hS3, fun J S D hD => ?_⟩
      refine lc_by xs.length (fun i H' => Bt D H3 H' ∧ H' D = some (.lst (((FM.names rs).take i).map V.str))) ⟨Bt.refl.at_, upd_same⟩ (fun i H' hi hP => S.go i H' (hS3.mono (hP.1.ex hD)) hi) (fun H' hP => S.stop H' (hS3.mono (hP.1.ex hD))) (fun i x H' H'' hi hP hy => ?_) fun H' hP => ?_
      · obtain ⟨rfl, hx⟩ := S.yld i H' x H'' (hS3.mono (hP.1.ex hD)) hy
        obtain ⟨r', hr', q', rfl, hq'⟩ := hR3.get hx
        refine ⟨rfl, _, rfl, q', _, _, _, rfl, rfl, SqT.of (hP.1.ex hD _ _ hq'), atI_nat (j := 0) rfl, _, hP.2, szLt (by rw [List.length_map, List.length_take, names_len]; omega), hP.1.at_, ?_⟩
        rw [upd_same, List.take_add_one, names_get hr', List.map_append]
        rfl
      · have e3 : Ex H3 H' := hP.1.ex hD
        have hD' := hP.2
        rw [hlen, ← names_len, List.take_length] at hD'
        have npr : r ≠ p := ne_of hr3 hp3 (by intro z; cases z)
        refine ⟨D, _, rfl, .inl ⟨SqL.of hD', fun l hl => ⟨_, rfl, p, CF K, dx, _, rfl, ?_, T.cl_Forest, T.no_Forest_order, ?_, rfl, ?_, r, l, upd_same, ?_, ?_⟩⟩⟩
        · rw [upd_ne (ne_of_none (e3 _ _ hp3) hl)]
          exact e3 _ _ hp3
        · have := length_putF "rows" (.ref r) []
          simp at this
          omega
        · exact ((b3.trans (Bt.of e3)).new hl).at_
        · rw [upd_ne npr, upd_ne (ne_of_none (e3 _ _ hr3) hl)]
          exact e3 _ _ hr3
        · rw [upd_ne (Ne.symm (ne_of_none (e3 _ _ hp3) hl)), upd_same]
    rintro σ H4 ⟨rfl, b4, r, o', hp4, hr4, ho4⟩
    have hS4 : Sk b H4 a xs := b4 _ _ hap hS
    have hR4 : RowsAt H4 xs rs := hR.bt hp b4
    have nrp : r ≠ p := ne_of hr4 hp4 (by intro z; cases z)
    have nop : o' ≠ p := ne_of ho4 hp4 (by intro z; cases z)
    -- self.spots = {row[0]: place for place, row in enumerate(rows)}
    refine ⟨_, rfl, a, b, xs, rfl, hS4, fun J S D hD => ?_⟩
    refine dc_by xs.length (fun i H' => Bt D H4 H' ∧ ∃ kvs, H' D = some (.dK kvs) ∧ kvs.length ≤ i ∧ ∀ n : Str, valV kvs (Sum.inr n) = if n ∈ (FM.names rs).take i then some (.int ((FM.pl rs n : Nat) : Int)) else none)
      ⟨Bt.refl.at_, [], upd_same, Nat.le_refl _, fun n => by simp [valV_nil]⟩ (fun i H' hi hP => S.go i H' (hS4.mono (hP.1.ex hD)) hi) (fun H' hP => S.stop H' (hS4.mono (hP.1.ex hD))) (fun i x H' H'' hi hP hy => ?_) fun H' hP => ?_
    · obtain ⟨b5, kvs, hk, hl, hv⟩ := hP
      obtain ⟨tp, y, rfl, hn, rfl, hx⟩ := S.yld i H' x H'' (hS4.mono (b5.ex hD)) hy
      obtain ⟨r', hr', q', rfl, hq'⟩ := hR4.get hx
      have hq5 := b5.ex hD _ _ hq'
      refine ⟨tp, _, rfl, SqT.of upd_same, rfl, _, _, rfl, _, _, rfl, rfl, rfl, _, rfl, q', _, _, _, rfl, rfl, SqT.of (by rw [upd_ne (ne_of_none hq5 hn)]; exact hq5), atI_nat (j := 0) rfl, _, rfl, kvs, Sum.inr r'.n, rfl, ?_, szLt (by omega), (b5.new hn).at_, _, upd_same, ?_, fun n => ?_⟩
      · rw [upd_ne (ne_of_none hk hn)]
        exact hk
      · have := length_putK kvs (Sum.inr r'.n) (.int ((i : Nat) : Int))
        omega
      · rw [valV_put, List.take_add_one, names_get hr']
        by_cases hnr : n = r'.n
        · subst hnr
          rw [if_pos rfl, if_pos (by simp), pl_get o.nd hr']
        · rw [if_neg (fun z => hnr (Sum.inr.inj z)), hv n]
          have : (n ∈ (FM.names rs).take i ++ (some r'.n).toList) ↔ n ∈ (FM.names rs).take i := by simp [hnr]
          by_cases hm : n ∈ (FM.names rs).take i
          · rw [if_pos hm, if_pos (this.mpr hm)]
          · rw [if_neg hm, if_neg fun z => hm (this.mp z)]
    · obtain ⟨b5, kvs, hk, _, hv⟩ := hP
      have e5 := b5.ex hD
      rw [hlen, ← names_len, List.take_length] at hv
      refine ⟨_, rfl, p, CF K, dx, _, rfl, e5 _ _ hp4, T.cl_Forest, T.no_Forest_spots, ?_, q _ (b4.trans (Bt.of e5)).at_ ⟨dx, r, o', D, xs, kvs, ⟨upd_same, ?_, (hR4.mono e5).bt (e5 _ _ hp4) Bt.refl.at_, ?_, ?_, hv⟩⟩⟩
      · have h1 := length_putF "rows" (.ref r) []
        have h2 := length_putF "order" (.ref o') (putF "rows" (.ref r) [])
        simp at h1
        omega
      · rw [upd_ne nrp]; exact e5 _ _ hr4
      · rw [upd_ne nop]; exact e5 _ _ ho4
      · rw [upd_ne (ne_of hk (e5 _ _ hp4) (by intro z; cases z))]; exact hk
end
end K13
end
section
set_option Elab.async false
set_option linter.all false
set_option maxRecDepth 100000
set_option maxHeartbeats 4000000
namespace K13
open PySem PySem.Spec PyProof.Rows L2
open Evl (Ex)
/-- what a promise hands on: a new list of these -/
abbrev NewL (xs : List V) (H : Hp) (Q : VK) : Prop := ∀ l H', H l = none → Ex H H' → H' l = some (.lst xs) → Q (.ref l) H'
abbrev sVs (l : List Str) : List V := l.map V.str
/-- a forest at p, in order -/
def spNames (K : PySem.W.Frag) : Sp := fun vs H Q _ => ∃ p rs, vs = [.ref p] ∧ ForestAt K H p rs ∧ Okf rs ∧ NewL (sVs (FM.names rs)) H Q
def hasV (rs : FM.Rows Str) : V → Bool
  | .str n => decide (n ∈ FM.names rs)
  | _ => false
def spHas (K : PySem.W.Frag) : Sp := fun vs H Q _ => ∃ p rs v, vs = [.ref p, v] ∧ ForestAt K H p rs ∧ Okf rs ∧ fieldOk H v ∧ Q (.bl (hasV rs v)) H
def spWorth (K : PySem.W.Frag) : Sp := fun vs H Q _ => ∃ p rs n, vs = [.ref p, .str n] ∧ ForestAt K H p rs ∧ Okf rs ∧ n ∈ FM.names rs ∧ Q (.int (FM.vl rs n)) H
def spLen (K : PySem.W.Frag) : Sp := fun vs H Q _ => ∃ p rs, vs = [.ref p] ∧ ForestAt K H p rs ∧ Okf rs ∧ Q (.int ((rs.length : Nat) : Int)) H
theorem pl_lt {rs : FM.Rows Str} {n : Str} (h : n ∈ FM.names rs) : FM.pl rs n < rs.length := by
  have := List.idxOf_lt_length_iff.mpr h
  rw [names_len] at this
  exact this
theorem idx_get : ∀ {l : List Str} {n : Str}, n ∈ l → l[l.idxOf n]? = some n
  | x :: l, n, h => by
    by_cases e : x = n
    · subst e; rw [List.idxOf_cons_self]; rfl
    · have h2 : n ∈ l := by
        rcases List.mem_cons.mp h with q | q
        · exact absurd q.symm e
        · exact q
      have hb : (x == n) = false := beq_false_of_ne e
      rw [List.idxOf_cons, hb]
      exact idx_get h2
theorem row_at {rs : FM.Rows Str} {n : Str} (h : n ∈ FM.names rs) : ∃ r, rs[FM.pl rs n]? = some r ∧ r.n = n ∧ FM.vl rs n = r.v ∧ FM.lv rs n = r.l := by
  have hl := pl_lt h
  have e : rs[FM.pl rs n]? = some rs[FM.pl rs n] := List.getElem?_eq_getElem hl
  refine ⟨_, e, ?_, ?_, ?_⟩
  · have h1 := names_get e
    have h2 : (FM.names rs)[FM.pl rs n]? = some n := idx_get h
    rw [h1] at h2
    exact Option.some.inj h2
  · unfold FM.vl; rw [e]
  · unfold FM.lv; rw [e]
section
variable {P : Program} {w : World} {K : PySem.W.Frag} {mg : Str → Option Value} {base : Heap}
theorem mfn {C : Addr} {m x : Str} {at_ : Addr} {params : Arguments} {body : List Stmt} {scope : Scope} {q : Str} {CX : CXT} {k : Nat} {ps : List Str} {sp : Sp} {fd : FuncData} (hm : Meth K C m at_) (F : FunD K x q params body scope [] [] at_ fd) (hb : Binds K fd ps []) (ok : FnOk P w K mg base CX k at_ fd ps sp) : MFn P w K mg base C m CX k ps sp :=
  ⟨at_, fd, hm, hb, ok⟩
theorem FAt.dget {H : Hp} {p dx r o d : Addr} {rs : FM.Rows Str} {vs : List V} {kvs : List (Key × V)} (F : FAt K H p rs dx r o d vs kvs) (n : Str) : DGet H d (.str n) (if n ∈ FM.names rs then some (.int ((FM.pl rs n : Nat) : Int)) else none) := by
  have := DGet.k (k := Sum.inr n) F.spots
  rw [F.val] at this
  exact this
theorem ok_names (T : Tx K mg) : MFn P w K mg base (CF K) "names" CX0 1 ["self"] (spNames K) := by
  obtain ⟨fd, F⟩ := T.d_F_names
  refine mfn T.me_Forest_names F (F.bindsN fun _ _ _ _ _ _ us hl => match us, hl with | [_], _ => rfl) (ok0 F sc_F_names (fun vs H Q E h => ?_) fun cdv A outer s H vs Q E hr h => ?_)
  · obtain ⟨p, rs, rfl, _⟩ := h; rfl
  · obtain ⟨p, rs, rfl, ⟨dx, r, o, d, vs, kvs, G⟩, _, q⟩ := h
    refine ⟨_, pss_one (ps_ret (pe_callTy call_list_of rfl T.z_list b_list (pa_cons (pe_fld (pv 0) rfl) pa_nil))), ?_⟩
    exact ⟨_, rfl, p, _, dx, _, _, rfl, G.ins, T.cl_Forest, T.no_Forest_order, ff_order, o, _, rfl, .inr (SqT.of G.order), fun l hl => q l _ hl (Ex.new hl) upd_same⟩
theorem ok_has_node (T : Tx K mg) : MFn P w K mg base (CF K) "has_node" CX0 1 ["self", "name"] (spHas K) := by
  obtain ⟨fd, F⟩ := T.d_F_has_node
  refine mfn T.me_Forest_has_node F (F.bindsN fun _ _ _ _ _ _ us hl => match us, hl with | [_, _], _ => rfl) (ok0 F sc_F_has_node (fun vs H Q E h => ?_) fun cdv A outer s H vs Q E hr h => ?_)
  · obtain ⟨p, rs, v, rfl, _⟩ := h; rfl
  · obtain ⟨p, rs, v, rfl, ⟨dx, r, o, d, vs, kvs, G⟩, _, hf, q⟩ := h
    refine ⟨_, pss_one (ps_ret (pe_and (pe_callB call_isi rfl T.z_isinstance b_isinstance (pa_cons (pv 1) (pa_cons (pe_bltn (v := .ty "str") rfl T.z_str b_str rfl) pa_nil))) (pe_one (pe_cmp (pc_din (hu_of hr) (pv 1) (pe_fld (pv 0) rfl)))))), ?_⟩
    obtain ⟨t, ty, _, _, k3⟩ := kitV (K := K) hf
    refine ⟨_, rfl, _, _, t, _, _, rfl, .ty "str", ty, k3, _, rfl, ?_⟩
    cases v with
    | str n =>
      refine iteT ⟨_, rfl, _, rfl, p, _, dx, _, _, rfl, G.ins, T.cl_Forest, T.no_Forest_spots, ff_spots, d, _, rfl, G.dget n, ?_⟩
      have e : (if n ∈ FM.names rs then some (V.int ((FM.pl rs n : Nat) : Int)) else none).isSome = hasV rs (.str n) := by
        show _ = decide (n ∈ FM.names rs)
        by_cases h : n ∈ FM.names rs
        · rw [if_pos h, decide_eq_true h]; rfl
        · rw [if_neg h, decide_eq_false h]; rfl
      rw [e]
      exact q
    | non => exact iteF q
    | bl b => exact iteF q
    | int i => exact iteF q
    | ref a => exact iteF q
    | byt b => exact hf.elim
    | flt b => exact hf.elim
    | ty n => exact hf.elim
theorem ok_worth (T : Tx K mg) : MFn P w K mg base (CF K) "worth" CX0 1 ["self", "name"] (spWorth K) := by
  obtain ⟨fd, F⟩ := T.d_F_worth
  refine mfn T.me_Forest_worth F (F.bindsN fun _ _ _ _ _ _ us hl => match us, hl with | [_, _], _ => rfl) (ok0 F sc_F_worth (fun vs H Q E h => ?_) fun cdv A outer s H vs Q E hr h => ?_)
  · obtain ⟨p, rs, n, rfl, _⟩ := h; rfl
  · obtain ⟨p, rs, n, rfl, ⟨dx, r, o, d, vs, kvs, G⟩, _, hn, q⟩ := h
    refine ⟨_, pss_one (ps_ret (pe_ix ix_tup (pe_ix ix_tup (pe_fld (pv 0) rfl) (pe_dget (hu_of hr) (pe_fld (pv 0) rfl) (pv 1) (fun _ _ => rfl)) (fun _ _ => rfl)) pe_int (fun _ _ => rfl))), ?_⟩
    obtain ⟨rw, er, _, ev, _⟩ := row_at hn
    obtain ⟨v, hv, qq, rfl, hq⟩ := G.at_.getR er
    have hd := G.dget n
    rw [if_pos hn] at hd
    rw [ev] at q
    exact ⟨_, rfl, p, _, dx, _, _, rfl, G.ins, T.cl_Forest, T.no_Forest_rows, ff_rows, _, rfl, p, _, dx, _, _, rfl, G.ins, T.cl_Forest, T.no_Forest_spots, ff_spots, _, rfl, d, _, rfl, hd, r, _, _, _, rfl, rfl, SqT.of G.rows, atI_nat hv, qq, _, _, _, rfl, rfl, SqT.of hq, atI_nat (j := 1) rfl, q⟩
theorem ok_flen (T : Tx K mg) : MFn P w K mg base (CF K) "__len__" CX0 1 ["self"] (spLen K) := by
  obtain ⟨fd, F⟩ := T.d_F_len_
  refine mfn T.me_Forest_len_ F (F.bindsN fun _ _ _ _ _ _ us hl => match us, hl with | [_], _ => rfl) (ok0 F sc_F_len_ (fun vs H Q E h => ?_) fun cdv A outer s H vs Q E hr h => ?_)
  · obtain ⟨p, rs, rfl, _⟩ := h; rfl
  · obtain ⟨p, rs, rfl, ⟨dx, r, o, d, vs, kvs, G⟩, _, q⟩ := h
    refine ⟨_, pss_one (ps_ret (pe_callB call_len_seq rfl T.z_len b_len (pa_cons (pe_fld (pv 0) rfl) pa_nil))), ?_⟩
    refine ⟨_, rfl, p, _, dx, _, _, rfl, G.ins, T.cl_Forest, T.no_Forest_rows, ff_rows, r, _, rfl, .inr (SqT.of G.rows), ?_⟩
    rw [G.at_.len]
    exact q
end
end K13
end
section
set_option Elab.async false
set_option linter.all false
set_option maxRecDepth 100000
set_option maxHeartbeats 4000000
namespace K13
open PySem PySem.Spec PyProof.Rows L2
open Evl (Ex)
theorem RowsAt.rev {H : Hp} : ∀ {vs : List V} {rs : FM.Rows Str}, RowsAt H vs rs → RowsAt H vs.reverse rs.reverse
  | [], [], _ => trivial
  | [], _ :: _, h => h.elim
  | _ :: _, [], h => h.elim
  | _ :: _, _ :: _, ⟨h1, h2⟩ => by
    rw [List.reverse_cons, List.reverse_cons]
    exact h2.rev.snoc h1
abbrev lineL (rs : FM.Rows Str) (n : Str) : List Str := (FM.anc rs n).reverse
def spLine (K : PySem.W.Frag) : Sp := fun vs H Q _ => ∃ p rs n, vs = [.ref p, .str n] ∧ ForestAt K H p rs ∧ Okf rs ∧ n ∈ FM.names rs ∧ NewL (sVs (lineL rs n)) H Q
def spBelow (K : PySem.W.Frag) : Sp := fun vs H Q _ => ∃ p rs n, vs = [.ref p, .str n] ∧ ForestAt K H p rs ∧ Okf rs ∧ n ∈ FM.names rs ∧ NewL (sVs (FM.names (FM.bel rs n))) H Q
theorem sVs_snoc {l : List Str} {n : Str} : sVs (l ++ [n]) = sVs l ++ [V.str n] := by show List.map _ _ = _; rw [List.map_append]; rfl
theorem sVs_rev {l : List Str} : sVs l.reverse = (sVs l).reverse := by show List.map _ _ = _; rw [List.map_reverse]
theorem sVs_len {l : List Str} : (sVs l).length = l.length := List.length_map ..
theorem take_snoc {α : Type} {l : List α} {i : Nat} {x : α} (h : l[i]? = some x) : l.take (i + 1) = l.take i ++ [x] := by
  rw [List.take_add_one, h]; rfl
theorem drop_at {α : Type} {l : List α} {i : Nat} {x : α} (h : l[i]? = some x) : l.drop i = x :: l.drop (i + 1) := by
  obtain ⟨hi, e⟩ := List.getElem?_eq_some_iff.mp h
  rw [List.drop_eq_getElem_cons hi, e]
theorem ancR_len : ∀ (L : FM.Rows Str) (k : Int), (FM.ancR L k).length ≤ L.length
  | [], _ => Nat.le_refl _
  | r :: L, k => by
    show (if r.l < k then r.n :: FM.ancR L r.l else FM.ancR L k).length ≤ _
    have h1 := ancR_len L r.l
    have h2 := ancR_len L k
    split <;> simp only [List.length_cons] <;> omega
section
variable {P : Program} {w : World} {K : PySem.W.Frag} {mg : Str → Option Value} {base : Heap}
theorem ok_line_to (T : Tx K mg) : MFn P w K mg base (CF K) "line_to" CX0 1 ["self", "name"] (spLine K) := by
  obtain ⟨fd, F⟩ := T.d_F_line_to
  refine mfn T.me_Forest_line_to F (F.bindsN fun _ _ _ _ _ _ us hl => match us, hl with | [_, _], _ => rfl) (ok0 F sc_F_line_to (fun vs H Q E h => ?_) fun cdv A outer s H vs Q E hr h => ?_)
  · obtain ⟨p, rs, n, rfl, _⟩ := h; rfl
  · obtain ⟨p, rs, n, rfl, ⟨dx, r, o, d, vs, kvs, G⟩, ok, hn, q⟩ := h
    refine ⟨_, pss_cons (ps_set (i := 2) sc_F_line_to.nd rfl (.inl rfl) (pe_dget (hu_of hr) (pe_fld (pv 0) rfl) (pv 1) (fun _ _ => rfl)))
      (pss_cons (ps_par (i := 3) (j := 4) rfl sc_F_line_to.nd rfl rfl (by decide) rfl rfl (pa_cons (pe_ix ix_tup (pe_ix ix_tup (pe_fld (pv 0) rfl) (pv 2) (fun _ _ => rfl)) pe_int (fun _ _ => rfl)) (pa_cons (pe_lst pa_nil) pa_nil)) (by rfl))
      (Evl.pss_cut (ps_for PassesOwn.never rfl (pi_seqA (pe_revT (pe_slice sl_tupA (pe_fld (pv 0) rfl) po_none (po_some (pv 2))))) (pg_tup rfl (pgs_cons (pg_name (i := 5) sc_F_line_to.nd rfl (.inl rfl)) (pgs_cons (pg_name (i := 6) sc_F_line_to.nd rfl (.inl rfl)) (pgs_cons (pg_name (i := 7) sc_F_line_to.nd rfl (.inl rfl)) pgs_nil))))
        (pss_one (ps_if (pt_cmpR op_lt (pv 7) (pv 3) (nomark _)) (pss_cons (ps_expr (pe_bm PySem.F.plainAttrs_list PySem.F.slot_list_append PySem.F.type_list_append mt_append (pv 4) (pa_cons (pv 5) pa_nil))) (pss_one (ps_set (i := 3) sc_F_line_to.nd rfl (.inl rfl) (pv 7)))) pss_nil)))
      (pss_one (ps_ret (pe_revL (pv 4)))))), ?_⟩
    obtain ⟨rw, er, en, ev, el⟩ := row_at hn
    obtain ⟨v, hv, qq, rfl, hq⟩ := G.at_.getR er
    have hd := G.dget n
    rw [if_pos hn] at hd
    have hpl := pl_lt hn
    refine ⟨_, rfl, p, _, dx, _, _, rfl, G.ins, T.cl_Forest, T.no_Forest_spots, ff_spots, _, rfl, d, _, rfl, hd, ?_⟩
    refine ⟨_, rfl, p, _, dx, _, _, rfl, G.ins, T.cl_Forest, T.no_Forest_rows, ff_rows, _, rfl, r, _, _, _, rfl, rfl, SqT.of G.rows, atI_nat hv, qq, _, _, _, rfl, rfl, SqT.of hq, atI_nat (j := 2) rfl, ?_⟩
    refine ⟨Nat.zero_le _, fun f hf => ⟨_, _, rfl, ?_⟩⟩
    have e1 : Ex H (upd H f (.lst [])) := Ex.new hf
    have hlen := G.at_.len
    have h60 := ok.len
    refine ⟨fun σ H' => (∃ a b c e : Option V, σ = [some (.ref p), some (.str n), some (.int ((FM.pl rs n : Nat) : Int)), a, some (.ref f), b, c, e]) ∧ Ex H H' ∧ H' f = some (.lst (sVs (FM.anc rs n))), ?_, ?_⟩
    · refine ⟨_, rfl, p, _, dx, _, _, rfl, e1 _ _ G.ins, T.cl_Forest, T.no_Forest_rows, ff_rows, _, rfl, _, rfl, r, vs, rfl, SqT.of (e1 _ _ G.rows), fun z => ?_, fun _ c hc => ?_⟩
      · have := z.2
        rw [HT.sIx_nat] at this
        omega
      rw [cut_take]
      refine ⟨c, _, rfl, SqT.of upd_same, fun c2 hc2 => ?_⟩
      have e2 : Ex H (upd (upd (upd H f (.lst [])) c (.tup (vs.take (FM.pl rs n)))) c2 (.tup (vs.take (FM.pl rs n)).reverse)) := (e1.trans (Ex.new hc)).trans (Ex.new hc2)
      have hcf : c ≠ f := Ne.symm (ne_of_none (H := upd H f (.lst [])) upd_same hc)
      have hc2f : c2 ≠ f := Ne.symm (ne_of_none (H := upd (upd H f (.lst [])) c (.tup (vs.take (FM.pl rs n)))) (o := .lst []) (by rw [upd_ne (Ne.symm hcf)]; exact upd_same) hc2)
      have hRv : RowsAt H (vs.take (FM.pl rs n)).reverse (rs.take (FM.pl rs n)).reverse := (G.at_.take _).rev
      refine ⟨c2, false, (vs.take (FM.pl rs n)).reverse, rfl, Sk.t upd_same, fun J S => ?_⟩
      refine for_sk S (fun i σ H' => ∃ (fl : List Str) (l : Int) (b c e : Option V), σ = [some (.ref p), some (.str n), some (.int ((FM.pl rs n : Nat) : Int)), some (.int l), some (.ref f), b, c, e] ∧ Ex H H' ∧ H' c2 = some (.tup (vs.take (FM.pl rs n)).reverse) ∧ H' f = some (.lst (sVs fl)) ∧ fl.length ≤ i ∧ fl ++ FM.ancR ((rs.take (FM.pl rs n)).reverse.drop i) l = FM.anc rs n) ?_ ?_ ?_ ?_
      · refine ⟨[], rw.l, none, none, none, rfl, e2, upd_same, ?_, Nat.le_refl _, ?_⟩
        · rw [upd_ne (Ne.symm hc2f), upd_ne (Ne.symm hcf)]; exact upd_same
        · unfold FM.anc; rw [el]; rfl
      · rintro i σ H' ⟨fl, l, b, c', e, rfl, _, h2, _⟩
        exact Sk.t h2
      · rintro i x σ H' hx ⟨fl, l, b, c', e, rfl, e3, h2, h3, h4, h5⟩
        obtain ⟨r', hr', q', rfl, hq'⟩ := hRv.get hx
        rw [drop_at hr'] at h5
        have hi : i < (rs.take (FM.pl rs n)).reverse.length := (List.getElem?_eq_some_iff.mp hr').1
        rw [List.length_reverse, List.length_take] at hi
        refine ⟨q', _, rfl, SqT.of (e3 _ _ hq'), rfl, _, _, rfl, _, _, rfl, _, _, rfl, rfl, ?_⟩
        refine ⟨_, rfl, _, rfl, _, _, rfl, rfl, _, rfl, ?_⟩
        have h5' : fl ++ (if r'.l < l then r'.n :: FM.ancR ((rs.take (FM.pl rs n)).reverse.drop (i + 1)) r'.l else FM.ancR ((rs.take (FM.pl rs n)).reverse.drop (i + 1)) l) = FM.anc rs n := h5
        by_cases hl : r'.l < l
        · rw [if_pos hl] at h5'
          refine iteD hl ⟨_, rfl, .inl ⟨rfl, _, SqL.of h3⟩, _, rfl, f, _, _, rfl, rfl, h3, szLt (by rw [sVs_len]; omega), ?_⟩
          refine ⟨_, rfl, fl ++ [r'.n], r'.l, _, _, _, rfl, ?_, ?_, ?_, ?_, ?_⟩
          · exact e3.mut hf
          · rw [upd_ne (ne_of h2 h3 (by intro z; cases z))]; exact h2
          · rw [upd_same, sVs_snoc]
          · rw [List.length_append]; exact Nat.succ_le_succ h4
          · rw [List.append_assoc]; exact h5'
        · rw [if_neg hl] at h5'
          exact iteDn hl ⟨fl, l, _, _, _, rfl, e3, h2, h3, by omega, h5'⟩
      · rintro σ H' ⟨fl, l, b, c', e, rfl, e3, h2, h3, h4, h5⟩
        rw [List.length_reverse, List.length_take, hlen, Nat.min_eq_left (by omega), List.drop_of_length_le (by rw [List.length_reverse, List.length_take]; omega)] at h5
        have h5 : fl ++ [] = FM.anc rs n := h5
        rw [List.append_nil] at h5
        subst h5
        exact ⟨⟨_, _, _, _, rfl⟩, e3, h3⟩
    · rintro σ H' ⟨⟨a, b, c, e, rfl⟩, e3, h3⟩
      refine ⟨_, rfl, f, _, rfl, SqL.of h3, fun g hg => q g _ ?_ (e3.trans (Ex.new hg)) ?_⟩
      · exact Evl.fresh_back e3 hg
      · rw [upd_same, sVs_rev]
theorem ok_below (T : Tx K mg) : MFn P w K mg base (CF K) "below" CX0 1 ["self", "name"] (spBelow K) := by
  obtain ⟨fd, F⟩ := T.d_F_below
  refine mfn T.me_Forest_below F (F.bindsN fun _ _ _ _ _ _ us hl => match us, hl with | [_, _], _ => rfl) (ok0 F sc_F_below (fun vs H Q E h => ?_) fun cdv A outer s H vs Q E hr h => ?_)
  · obtain ⟨p, rs, n, rfl, _⟩ := h; rfl
  · obtain ⟨p, rs, n, rfl, ⟨dx, r, o, d, vs, kvs, G⟩, ok, hn, q⟩ := h
    refine ⟨_, pss_cons (ps_par (i := 2) (j := 3) rfl sc_F_below.nd rfl rfl (by decide) rfl rfl (pa_cons (pe_dget (hu_of hr) (pe_fld (pv 0) rfl) (pv 1) (fun _ _ => rfl)) (pa_cons (pe_lst pa_nil) pa_nil)) (by rfl))
      (pss_cons (ps_set (i := 4) sc_F_below.nd rfl (.inl rfl) (pe_ix ix_tup (pe_ix ix_tup (pe_fld (pv 0) rfl) (pv 2) (fun _ _ => rfl)) pe_int (fun _ _ => rfl)))
      (Evl.pss_cut (ps_for PassesOwn.never rfl (pi_seqA (pe_slice sl_tupA (pe_fld (pv 0) rfl) (po_some (pe_op op_add (pv 2) pe_int)) po_none)) (pg_tup rfl (pgs_cons (pg_name (i := 5) sc_F_below.nd rfl (.inl rfl)) (pgs_cons (pg_name (i := 6) sc_F_below.nd rfl (.inl rfl)) (pgs_cons (pg_name (i := 7) sc_F_below.nd rfl (.inl rfl)) pgs_nil))))
        (pss_cons (ps_if (pt_cmpR op_le (pv 7) (pv 4) (nomark _)) (pss_one ps_break) pss_nil) (pss_one (ps_expr (pe_bm PySem.F.plainAttrs_list PySem.F.slot_list_append PySem.F.type_list_append mt_append (pv 3) (pa_cons (pv 5) pa_nil))))))
      (pss_one (ps_ret (pv 3))))), ?_⟩
    obtain ⟨rw, er, en, ev, el⟩ := row_at hn
    obtain ⟨v, hv, qq, rfl, hq⟩ := G.at_.getR er
    have hd := G.dget n
    rw [if_pos hn] at hd
    have hpl := pl_lt hn
    refine ⟨_, rfl, p, _, dx, _, _, rfl, G.ins, T.cl_Forest, T.no_Forest_spots, ff_spots, _, rfl, d, _, rfl, hd, ?_⟩
    refine ⟨Nat.zero_le _, fun f hf => ⟨_, _, rfl, ?_⟩⟩
    have e1 : Ex H (upd H f (.lst [])) := Ex.new hf
    refine ⟨_, rfl, p, _, dx, _, _, rfl, e1 _ _ G.ins, T.cl_Forest, T.no_Forest_rows, ff_rows, _, rfl, r, _, _, _, rfl, rfl, SqT.of (e1 _ _ G.rows), atI_nat hv, qq, _, _, _, rfl, rfl, SqT.of (e1 _ _ hq), atI_nat (j := 2) rfl, ?_⟩
    have hlen := G.at_.len
    have h60 := ok.len
    refine ⟨fun σ H' => (∃ a b c e : Option V, σ = [some (.ref p), some (.str n), a, some (.ref f), b, c, e, none] ∨ ∃ g, σ = [some (.ref p), some (.str n), a, some (.ref f), b, c, e, g]) ∧ Ex H H' ∧ H' f = some (.lst (sVs (FM.names (FM.bel rs n)))), ?_, ?_⟩
    · refine ⟨_, rfl, p, _, dx, _, _, rfl, e1 _ _ G.ins, T.cl_Forest, T.no_Forest_rows, ff_rows, _, rfl, _, _, rfl, rfl, _, rfl, r, vs, rfl, SqT.of (e1 _ _ G.rows), fun z => ?_, fun _ c hc => ?_⟩
      · have := z.1
        rw [show ((FM.pl rs n : Nat) : Int) + 1 = ((FM.pl rs n + 1 : Nat) : Int) by omega, HT.sIx_nat] at this
        omega
      rw [show ((FM.pl rs n : Nat) : Int) + 1 = ((FM.pl rs n + 1 : Nat) : Int) by omega, cut_drop]
      have e2 : Ex H (upd (upd H f (.lst [])) c (.tup (vs.drop (FM.pl rs n + 1)))) := e1.trans (Ex.new hc)
      have hcf : c ≠ f := Ne.symm (ne_of_none (H := upd H f (.lst [])) upd_same hc)
      have hRv : RowsAt H (vs.drop (FM.pl rs n + 1)) (rs.drop (FM.pl rs n + 1)) := G.at_.drop _
      have hL : (vs.drop (FM.pl rs n + 1)).length = (rs.drop (FM.pl rs n + 1)).length := hRv.len
      have hL2 : (rs.drop (FM.pl rs n + 1)).length ≤ 60 := by rw [List.length_drop]; omega
      refine ⟨c, false, _, rfl, Sk.t upd_same, fun J S => ?_⟩
      refine for_sk S (fun i σ H' => ∃ (fl : List Str) (b c' e : Option V), σ = [some (.ref p), some (.str n), some (.int ((FM.pl rs n : Nat) : Int)), some (.ref f), some (.int rw.l), b, c', e] ∧ Ex H H' ∧ H' c = some (.tup (vs.drop (FM.pl rs n + 1))) ∧ H' f = some (.lst (sVs fl)) ∧ fl.length ≤ i ∧
          fl ++ FM.names (((rs.drop (FM.pl rs n + 1)).drop i).takeWhile fun r => decide (rw.l < r.l)) = FM.names (FM.bel rs n)) ?_ ?_ ?_ ?_
      · refine ⟨[], none, none, none, rfl, e2, upd_same, ?_, Nat.le_refl _, ?_⟩
        · rw [upd_ne (Ne.symm hcf)]; exact upd_same
        · unfold FM.bel; rw [el]; rfl
      · rintro i σ H' ⟨fl, b, c', e, rfl, _, h2, _⟩
        exact Sk.t h2
      · rintro i x σ H' hx ⟨fl, b, c', e, rfl, e3, h2, h3, h4, h5⟩
        obtain ⟨r', hr', q', rfl, hq'⟩ := hRv.get hx
        rw [drop_at hr', List.takeWhile_cons] at h5
        have hi : i < (rs.drop (FM.pl rs n + 1)).length := (List.getElem?_eq_some_iff.mp hr').1
        refine ⟨q', _, rfl, SqT.of (e3 _ _ hq'), rfl, _, _, rfl, _, _, rfl, _, _, rfl, rfl, ?_⟩
        refine ⟨_, rfl, _, rfl, _, _, rfl, rfl, _, rfl, ?_⟩
        by_cases hl : r'.l ≤ rw.l
        · rw [if_neg (by rw [decide_eq_false (by omega : ¬ rw.l < r'.l)]; exact Bool.false_ne_true)] at h5
          have h5 : fl ++ [] = FM.names (FM.bel rs n) := h5
          rw [List.append_nil] at h5
          subst h5
          exact iteD hl ⟨⟨_, _, _, _, .inr ⟨_, rfl⟩⟩, e3, h3⟩
        · rw [if_pos (decide_eq_true (by omega : rw.l < r'.l))] at h5
          refine iteDn hl ⟨_, rfl, .inl ⟨rfl, _, SqL.of h3⟩, _, rfl, f, _, _, rfl, rfl, h3, szLt (by rw [sVs_len]; omega), ?_⟩
          refine ⟨fl ++ [r'.n], _, _, _, rfl, ?_, ?_, ?_, ?_, ?_⟩
          · exact e3.mut hf
          · rw [upd_ne (ne_of h2 h3 (by intro z; cases z))]; exact h2
          · rw [upd_same, sVs_snoc]
          · rw [List.length_append]; exact Nat.succ_le_succ h4
          · rw [List.append_assoc]; exact h5
      · rintro σ H' ⟨fl, b, c', e, rfl, e3, h2, h3, h4, h5⟩
        rw [hL, List.drop_length] at h5
        have h5 : fl ++ [] = FM.names (FM.bel rs n) := h5
        rw [List.append_nil] at h5
        subst h5
        exact ⟨⟨_, _, _, _, .inr ⟨_, rfl⟩⟩, e3, h3⟩
    · rintro σ H' ⟨⟨a, b, c, e, rfl | ⟨g, rfl⟩⟩, e3, h3⟩
      · exact ⟨_, rfl, q f _ hf e3 h3⟩
      · exact ⟨_, rfl, q f _ hf e3 h3⟩
end
end K13
end
section
set_option Elab.async false
set_option linter.all false
set_option maxRecDepth 100000
set_option maxHeartbeats 4000000
namespace K13
open PySem PySem.Spec PyProof.Rows L2
open Evl (Ex)
def spCheck (K : PySem.W.Frag) : Sp := fun vs H Q _ => ∃ p a rs ns, vs = [.ref p, .ref a] ∧ ForestAt K H p rs ∧ Okf rs ∧ H a = some (.lst (sVs ns)) ∧ (∀ n ∈ ns, n ∈ FM.names rs) ∧ Q .non H
theorem ForestAt.ins {K : PySem.W.Frag} {H : Hp} {p : Addr} {rs : FM.Rows Str} (G : ForestAt K H p rs) : ∃ dx r o d, H p = some (.ins (CF K) dx (ff r o d)) :=
  let ⟨dx, r, o, d, _, _, F⟩ := G
  ⟨dx, r, o, d, F.ins⟩
theorem nm_len {rs : FM.Rows Str} (ok : Okf rs) {n : Str} (h : n ∈ FM.names rs) : n.length ≤ 100000 := by
  obtain ⟨r, hr, rfl⟩ := FM.of_names h
  have := ok.lenS r hr
  omega
def optV : Option Str → V
  | none => .non
  | some n => .str n
def spDesc (K : PySem.W.Frag) : Sp := spBelow K
def spPar (K : PySem.W.Frag) : Sp := fun vs H Q _ => ∃ p rs n, vs = [.ref p, .str n] ∧ ForestAt K H p rs ∧ Okf rs ∧ n ∈ FM.names rs ∧ ∀ H', Ex H H' → Q (optV (FM.par rs n)) H'
def spOf (K : PySem.W.Frag) (f : FM.Rows Str → Str → Int) : Sp := fun vs H Q _ => ∃ p rs n, vs = [.ref p, .str n] ∧ ForestAt K H p rs ∧ Okf rs ∧ n ∈ FM.names rs ∧ ∀ H', Ex H H' → Q (.int (f rs n)) H'
def spRoots (K : PySem.W.Frag) : Sp := fun vs H Q _ => ∃ p rs, vs = [.ref p] ∧ ForestAt K H p rs ∧ Okf rs ∧ NewL (sVs (FM.kidsOf rs none)) H Q
def spKids (K : PySem.W.Frag) : Sp := fun vs H Q _ => ∃ p rs n, vs = [.ref p, .str n] ∧ ForestAt K H p rs ∧ Okf rs ∧ n ∈ FM.names rs ∧ NewL (sVs (FM.kidsOf rs (some n))) H Q
theorem anc_len : ∀ (L : FM.Rows Str) (k : Int), FM.Steps (-1) L → 0 ≤ k → k ≤ FM.lastL (-1) L + 1 → ((FM.ancR L.reverse k).length : Int) = k := by
  intro L
  induction h : L.length generalizing L with
  | zero =>
    intro k _ h0 h1
    have : L = [] := List.length_eq_zero_iff.mp h
    subst this
    have h1 : k ≤ -1 + 1 := h1
    show ((0 : Nat) : Int) = k
    omega
  | succ m ih =>
    intro k hs h0 h1
    have hne : L ≠ [] := by intro z; rw [z] at h; cases h
    obtain ⟨L', r, rfl⟩ : ∃ L' r, L = L' ++ [r] := ⟨L.dropLast, L.getLast hne, (List.dropLast_concat_getLast hne).symm⟩
    rw [FM.steps_app] at hs
    obtain ⟨s1, s2, s3, _⟩ := hs
    rw [FM.lastL_app] at h1
    have h1 : k ≤ r.l + 1 := h1
    have hm : L'.length = m := by rw [List.length_append] at h; exact Nat.succ.inj h
    rw [List.reverse_append]
    show (((if r.l < k then r.n :: FM.ancR L'.reverse r.l else FM.ancR L'.reverse k).length : Nat) : Int) = k
    by_cases hl : r.l < k
    · rw [if_pos hl, List.length_cons]
      have := ih L' hm r.l s1 s2 s3
      omega
    · rw [if_neg hl]
      exact ih L' hm k s1 h0 (by omega)
theorem lv_len {rs : FM.Rows Str} (ok : Okf rs) {n : Str} (h : n ∈ FM.names rs) : (((FM.anc rs n).length : Nat) : Int) = FM.lv rs n := by
  obtain ⟨r, hr, _, _, hl⟩ := row_at h
  have e : rs = rs.take (FM.pl rs n) ++ r :: rs.drop (FM.pl rs n + 1) := by rw [← drop_at hr, List.take_append_drop]
  have st := ok.st
  rw [e, FM.steps_app] at st
  obtain ⟨s1, s2, s3, _⟩ := st
  unfold FM.anc
  rw [hl]
  exact anc_len _ _ s1 s2 s3
theorem anc_last {l : List Str} {a : Str} {as : List Str} (h : l = a :: as) : atI (sVs l.reverse) (-1) = some (.str a) := by
  rw [h, List.reverse_cons, sVs_snoc]
  exact atI_last _ _
section
variable {P : Program} {w : World} {K : PySem.W.Frag} {mg : Str → Option Value} {base : Heap}
theorem ok_check_nodes (T : Tx K mg) : MFn P w K mg base (CF K) "check_nodes" CX0 2 ["self", "names"] (spCheck K) := by
  obtain ⟨fd, F⟩ := T.d_F_check_nodes
  refine mfn T.me_Forest_check_nodes F (F.bindsN fun _ _ _ _ _ _ us hl => match us, hl with | [_, _], _ => rfl) (ok0 F sc_F_check_nodes (fun vs H Q E h => ?_) fun cdv A outer s H vs Q E hr h => ?_)
  · obtain ⟨p, a, rs, n, rfl, _⟩ := h; rfl
  · obtain ⟨p, a, rs, ns, rfl, G, ok, ha, hn, q⟩ := h
    obtain ⟨dx, r, o, d, hp⟩ := G.ins
    refine ⟨_, pss_one (ps_for PassesOwn.never rfl (pi_seqA (pv 1)) (pg_name (i := 2) sc_F_check_nodes.nd rfl (.inl rfl)) (pss_one (ps_if (pt_not (pt_val (pe_m T.cl_Forest (ok_has_node T) hr pass0 (pv 0) (pa_cons (pv 2) pa_nil)))) (pss_one ps_never) pss_nil))), ?_⟩
    refine ⟨_, rfl, a, true, sVs ns, rfl, Sk.l ha, fun J S => ?_⟩
    refine for_sk S (fun i σ H' => (∃ v, σ = [some (.ref p), some (.ref a), v]) ∧ H' = H) ⟨⟨_, rfl⟩, rfl⟩ ?_ ?_ ?_
    · rintro i σ H' ⟨_, rfl⟩
      exact Sk.l ha
    · rintro i x σ H' hx ⟨⟨v, rfl⟩, rfl⟩
      obtain ⟨n, hn', rfl⟩ : ∃ n, n ∈ ns ∧ x = .str n := by
        have hm := List.mem_of_getElem? hx
        obtain ⟨n, h1, h2⟩ := List.mem_map.mp hm
        exact ⟨n, h1, h2.symm⟩
      refine ⟨_, rfl, p, dx, _, rfl, hp, ff_no (by decide +kernel) (by decide +kernel) (by decide +kernel), _, rfl, p, rs, .str n, rfl, G, ok, nm_len ok (hn n hn'), _, rfl, ?_⟩
      exact iteB (congrArg (!·) (show hasV rs (.str n) = true from decide_eq_true (hn n hn'))) (iteF ⟨⟨_, rfl⟩, rfl⟩)
    · rintro σ H' ⟨_, rfl⟩
      exact q
/-- the opening check of a name -/
theorem rd_check {m : Str} {E : XK} {p : Addr} {rs : FM.Rows Str} {n : Str} {H : Hp} {D : Ends} {σ : L2.St} {u : TS} (G : ForestAt K H p rs) (ok : Okf rs) (hn : n ∈ FM.names rs) (h0 : σ[0]? = some (some (.ref p))) (h1 : σ[1]? = some (some (.str n))) (k : ∀ H1, Ex H H1 → ForestAt K H1 p rs → u D σ H1)
    (hm : (¬ m = "rows" ∧ ¬ m = "order" ∧ ¬ m = "spots") := by decide +kernel) :
    tSeq (tDrop (tMeth (CF K) m (spCheck K) [] E (tVar 0) (tCons (tLst (tCons (tVar 1) tNil)) tNil))) u D σ H := by
  obtain ⟨dx, r, o, d, hp⟩ := G.ins
  refine ⟨_, h0, p, dx, _, rfl, hp, ff_no hm.1 hm.2.1 hm.2.2, _, h1, (by show 1 ≤ sizeLine; decide), fun l hl => ?_⟩
  refine ⟨p, l, rs, [n], rfl, G.mono (Ex.new hl), ok, upd_same, fun m hm => ?_, k _ (Ex.new hl) (G.mono (Ex.new hl))⟩
  rw [List.mem_singleton.mp hm]
  exact hn
theorem ok_descendants_of (T : Tx K mg) : MFn P w K mg base (CF K) "descendants_of" CX0 3 ["self", "name"] (spDesc K) := by
  obtain ⟨fd, F⟩ := T.d_F_descendants_of
  refine mfn T.me_Forest_descendants_of F (F.bindsN fun _ _ _ _ _ _ us hl => match us, hl with | [_, _], _ => rfl) (ok0 F sc_F_descendants_of (fun vs H Q E h => ?_) fun cdv A outer s H vs Q E hr h => ?_)
  · obtain ⟨p, rs, n, rfl, _⟩ := h; rfl
  · obtain ⟨p, rs, n, rfl, G, ok, hn, q⟩ := h
    refine ⟨_, pss_cons (ps_expr (pe_m T.cl_Forest (ok_check_nodes T) hr pass0 (pv 0) (pa_cons (pe_lst (pa_cons (pv 1) pa_nil)) pa_nil))) (pss_one (ps_ret (pe_m T.cl_Forest (ok_below T) hr pass0 (pv 0) (pa_cons (pv 1) pa_nil)))), ?_⟩
    refine rd_check G ok hn rfl rfl fun H1 e1 G1 => ?_
    obtain ⟨dx, r, o, d, hp⟩ := G1.ins
    exact ⟨_, rfl, p, dx, _, rfl, hp, ff_no (by decide +kernel) (by decide +kernel) (by decide +kernel), _, rfl, p, rs, n, rfl, G1, ok, hn, fun l H2 hl e2 h2 => q l H2 (Evl.fresh_back e1 hl) (e1.trans e2) h2⟩
theorem ok_parent_of (T : Tx K mg) : MFn P w K mg base (CF K) "parent_of" CX0 3 ["self", "name"] (spPar K) := by
  obtain ⟨fd, F⟩ := T.d_F_parent_of
  refine mfn T.me_Forest_parent_of F (F.bindsN fun _ _ _ _ _ _ us hl => match us, hl with | [_, _], _ => rfl) (ok0 F sc_F_parent_of (fun vs H Q E h => ?_) fun cdv A outer s H vs Q E hr h => ?_)
  · obtain ⟨p, rs, n, rfl, _⟩ := h; rfl
  · obtain ⟨p, rs, n, rfl, G, ok, hn, q⟩ := h
    refine ⟨_, pss_cons (ps_expr (pe_m T.cl_Forest (ok_check_nodes T) hr pass0 (pv 0) (pa_cons (pe_lst (pa_cons (pv 1) pa_nil)) pa_nil))) (pss_one (ps_ret (pe_ix ix_list (pe_orT (pe_m T.cl_Forest (ok_line_to T) hr pass0 (pv 0) (pa_cons (pv 1) pa_nil)) (pe_one (pe_lst (pa_cons pe_non pa_nil)))) (pe_un un_neg pe_int) (fun _ _ => rfl)))), ?_⟩
    refine rd_check G ok hn rfl rfl fun H1 e1 G1 => ?_
    obtain ⟨dx, r, o, d, hp⟩ := G1.ins
    refine ⟨_, rfl, p, dx, _, rfl, hp, ff_no (by decide +kernel) (by decide +kernel) (by decide +kernel), _, rfl, p, rs, n, rfl, G1, ok, hn, fun l H2 hl e2 h2 => ?_⟩
    cases ha : FM.anc rs n with
    | nil =>
      have hpar : FM.par rs n = none := by unfold FM.par; rw [ha]; rfl
      have h2 : H2 l = some (.lst []) := by rw [h2]; unfold lineL; rw [ha]; rfl
      refine ⟨false, .inl ⟨[], SqL.of h2, rfl⟩, iteF ⟨(by show 1 ≤ sizeLine; decide), fun g hg => ⟨_, rfl, g, [.non], -1, .non, rfl, rfl, SqL.of upd_same, rfl, ?_⟩⟩⟩
      have := q (upd H2 g (.lst [.non])) ((e1.trans e2).trans (Ex.new hg))
      rw [hpar] at this
      exact this
    | cons a as =>
      have hpar : FM.par rs n = some a := by unfold FM.par; rw [ha]; rfl
      refine ⟨true, .inl ⟨_, SqL.of h2, ?_⟩, iteT ⟨_, rfl, l, _, -1, _, rfl, rfl, SqL.of h2, anc_last ha, ?_⟩⟩
      · unfold lineL
        rw [ha, List.reverse_cons, sVs_snoc]
        simp
      · have := q _ (e1.trans e2)
        rw [hpar] at this
        exact this
theorem ok_level_of (T : Tx K mg) : MFn P w K mg base (CF K) "level_of" CX0 3 ["self", "name"] (spOf K FM.lv) := by
  obtain ⟨fd, F⟩ := T.d_F_level_of
  refine mfn T.me_Forest_level_of F (F.bindsN fun _ _ _ _ _ _ us hl => match us, hl with | [_, _], _ => rfl) (ok0 F sc_F_level_of (fun vs H Q E h => ?_) fun cdv A outer s H vs Q E hr h => ?_)
  · obtain ⟨p, rs, n, rfl, _⟩ := h; rfl
  · obtain ⟨p, rs, n, rfl, G, ok, hn, q⟩ := h
    refine ⟨_, pss_cons (ps_expr (pe_m T.cl_Forest (ok_check_nodes T) hr pass0 (pv 0) (pa_cons (pe_lst (pa_cons (pv 1) pa_nil)) pa_nil))) (pss_one (ps_ret (pe_callB call_len_seq rfl T.z_len b_len (pa_cons (pe_m T.cl_Forest (ok_line_to T) hr pass0 (pv 0) (pa_cons (pv 1) pa_nil)) pa_nil)))), ?_⟩
    refine rd_check G ok hn rfl rfl fun H1 e1 G1 => ?_
    obtain ⟨dx, r, o, d, hp⟩ := G1.ins
    refine ⟨_, rfl, p, dx, _, rfl, hp, ff_no (by decide +kernel) (by decide +kernel) (by decide +kernel), _, rfl, p, rs, n, rfl, G1, ok, hn, fun l H2 hl e2 h2 => ⟨l, _, rfl, .inl (SqL.of h2), ?_⟩⟩
    rw [sVs_len, show (lineL rs n).length = (FM.anc rs n).length from List.length_reverse .., lv_len ok hn]
    exact q _ (e1.trans e2)
theorem ok_value_of (T : Tx K mg) : MFn P w K mg base (CF K) "value_of" CX0 3 ["self", "name"] (spOf K FM.vl) := by
  obtain ⟨fd, F⟩ := T.d_F_value_of
  refine mfn T.me_Forest_value_of F (F.bindsN fun _ _ _ _ _ _ us hl => match us, hl with | [_, _], _ => rfl) (ok0 F sc_F_value_of (fun vs H Q E h => ?_) fun cdv A outer s H vs Q E hr h => ?_)
  · obtain ⟨p, rs, n, rfl, _⟩ := h; rfl
  · obtain ⟨p, rs, n, rfl, G, ok, hn, q⟩ := h
    refine ⟨_, pss_cons (ps_expr (pe_m T.cl_Forest (ok_check_nodes T) hr pass0 (pv 0) (pa_cons (pe_lst (pa_cons (pv 1) pa_nil)) pa_nil))) (pss_one (ps_ret (pe_m T.cl_Forest (ok_worth T) hr pass0 (pv 0) (pa_cons (pv 1) pa_nil)))), ?_⟩
    refine rd_check G ok hn rfl rfl fun H1 e1 G1 => ?_
    obtain ⟨dx, r, o, d, hp⟩ := G1.ins
    exact ⟨_, rfl, p, dx, _, rfl, hp, ff_no (by decide +kernel) (by decide +kernel) (by decide +kernel), _, rfl, p, rs, n, rfl, G1, ok, hn, q _ e1⟩
theorem ok_place_of (T : Tx K mg) : MFn P w K mg base (CF K) "place_of" CX0 3 ["self", "name"] (spOf K fun rs n => ((FM.pl rs n : Nat) : Int)) := by
  obtain ⟨fd, F⟩ := T.d_F_place_of
  refine mfn T.me_Forest_place_of F (F.bindsN fun _ _ _ _ _ _ us hl => match us, hl with | [_, _], _ => rfl) (ok0 F sc_F_place_of (fun vs H Q E h => ?_) fun cdv A outer s H vs Q E hr h => ?_)
  · obtain ⟨p, rs, n, rfl, _⟩ := h; rfl
  · obtain ⟨p, rs, n, rfl, G, ok, hn, q⟩ := h
    refine ⟨_, pss_cons (ps_expr (pe_m T.cl_Forest (ok_check_nodes T) hr pass0 (pv 0) (pa_cons (pe_lst (pa_cons (pv 1) pa_nil)) pa_nil))) (pss_one (ps_ret (pe_bm PySem.F.plainAttrs_list PySem.F.slot_list_index PySem.F.type_list_index mt_index (pe_m0 T.cl_Forest (ok_names T) hr pass0 (pv 0)) (pa_cons (pv 1) pa_nil)))), ?_⟩
    refine rd_check G ok hn rfl rfl fun H1 e1 G1 => ?_
    obtain ⟨dx, r, o, d, hp⟩ := G1.ins
    refine ⟨_, rfl, p, dx, _, rfl, hp, ff_no (by decide +kernel) (by decide +kernel) (by decide +kernel), p, rs, rfl, G1, ok, fun l H2 hl e2 h2 => ?_⟩
    have hi := idx_get hn
    refine ⟨.inl ⟨rfl, _, SqL.of h2⟩, _, rfl, l, _, .str n, FM.pl rs n, .str n, rfl, rfl, SqL.of h2, rfl, flat_strs, ?_, ?_, ?_, q _ (e1.trans e2)⟩
    · show (List.map V.str _)[_]? = _
      rw [List.getElem?_map]
      unfold FM.pl
      rw [hi]
      rfl
    · show (n == n) = true
      exact beq_self_eq_true n
    · intro m z' hm hz
      have hz : (List.map V.str (FM.names rs))[m]? = some z' := hz
      rw [List.getElem?_map] at hz
      obtain ⟨y, hy, rfl⟩ := Option.map_eq_some_iff.mp hz
      show (y == n) = false
      obtain ⟨hlt, e⟩ := List.getElem?_eq_some_iff.mp hy
      rw [← e]
      have := List.not_of_lt_findIdx (p := (· == n)) (xs := FM.names rs) (i := m) hm
      exact this
theorem ok_size_of (T : Tx K mg) : MFn P w K mg base (CF K) "size_of" CX0 4 ["self", "name"] (spOf K fun rs n => ((FM.sizeN rs n : Nat) : Int)) := by
  obtain ⟨fd, F⟩ := T.d_F_size_of
  refine mfn T.me_Forest_size_of F (F.bindsN fun _ _ _ _ _ _ us hl => match us, hl with | [_, _], _ => rfl) (ok0 F sc_F_size_of (fun vs H Q E h => ?_) fun cdv A outer s H vs Q E hr h => ?_)
  · obtain ⟨p, rs, n, rfl, _⟩ := h; rfl
  · obtain ⟨p, rs, n, rfl, G, ok, hn, q⟩ := h
    refine ⟨_, pss_one (ps_ret (pe_op op_add pe_int (pe_callB call_len_seq rfl T.z_len b_len (pa_cons (pe_m T.cl_Forest (ok_descendants_of T) hr pass0 (pv 0) (pa_cons (pv 1) pa_nil)) pa_nil)))), ?_⟩
    obtain ⟨dx, r, o, d, hp⟩ := G.ins
    refine ⟨_, rfl, p, dx, _, rfl, hp, ff_no (by decide +kernel) (by decide +kernel) (by decide +kernel), _, rfl, p, rs, n, rfl, G, ok, hn, fun l H2 hl e2 h2 => ⟨l, _, rfl, .inl (SqL.of h2), _, _, rfl, rfl, ?_⟩⟩
    rw [sVs_len, names_len]
    have := q _ e2
    have e : ((FM.sizeN rs n : Nat) : Int) = 1 + ((FM.bel rs n).length : Nat) := by unfold FM.sizeN; omega
    have this : Q (.int ((FM.sizeN rs n : Nat) : Int)) H2 := this
    rw [e] at this
    exact this
end
end K13
end
section
set_option Elab.async false
set_option linter.all false
set_option maxRecDepth 100000
set_option maxHeartbeats 4000000
namespace K13
open PySem PySem.Spec PyProof.Rows L2
open Evl (Ex)
abbrev E00 : XK := fun _ _ _ => False
/-! ## data of names, of rows -/
theorem name_strOk {s : Str} (h : nameOk s = true) : PyData.strOk s = true := by
  unfold nameOk at h
  have h1 := (He.ba (He.ba (He.ba h).2).2).2
  have hs : signs.all (fun c => decide (c < 0x110000)) = true := by decide +kernel
  unfold PyData.strOk
  rw [← Array.all_toList]
  refine List.all_eq_true.mpr fun c hc => ?_
  have := of_decide_eq_true (List.all_eq_true.mp h1 c hc)
  exact List.all_eq_true.mp hs c this
theorem Okf.nms {rs : FM.Rows Str} (ok : Okf rs) : ∀ n ∈ FM.names rs, nameOk n = true := fun n hn => by
  obtain ⟨r, hr, rfl⟩ := FM.of_names hn
  exact ok.gd.nm (FM.key r) (List.mem_map.mpr ⟨r, hr, rfl⟩)
theorem sDs_lay : ∀ {l : List Str}, (∀ n ∈ l, PyData.strOk n = true) → PyData.canLayAll0 (l.map PyData.str) = true
  | [], _ => by simp [PyData.canLayAll0]
  | x :: l, h => by simp [PyData.canLayAll0, PyData.canLay0, h x List.mem_cons_self, sDs_lay (l := l) fun n hn => h n (List.mem_cons_of_mem _ hn)]
theorem sDs_depth : ∀ {l : List Str}, PyData.depthAll (l.map PyData.str) = 0
  | [] => by simp [PyData.depthAll]
  | x :: l => by simp [PyData.depthAll, PyData.depth, sDs_depth (l := l)]
theorem sD_shaped {l : List Str} (h : ∀ n ∈ l, PyData.strOk n = true) : SeqAt.shaped (.list (l.map PyData.str)) = true := by
  show (PyData.canLay0 _ && decide (PyData.depth _ ≤ 64)) = true
  rw [Bool.and_eq_true]
  exact ⟨by simp only [PyData.canLay0]; exact sDs_lay h, decide_eq_true (by simp only [PyData.depth]; rw [sDs_depth]; omega)⟩
theorem sD_all {K : PySem.W.Frag} {H : Hp} : ∀ {l : List Str}, DpAll K H (sVs l) (l.map PyData.str)
  | [] => .nil
  | x :: l => .cons (.str x) (sD_all (l := l))
theorem sD_nil {l : List Str} : PyData.eqv (.list (l.map PyData.str)) (.list []) = decide (l = []) := by
  cases l with
  | nil => simp [PyData.eqv, PyData.eqvAll]
  | cons a l => simp [PyData.eqv, PyData.eqvAll]
theorem anc_mem {rs : FM.Rows Str} {n a : Str} (h : a ∈ FM.anc rs n) : a ∈ FM.names rs := by
  have := FM.mem_ancR _ _ a h
  obtain ⟨r, hr, rfl⟩ := FM.of_names this
  exact FM.mem_names (List.mem_of_mem_take (List.mem_reverse.mp hr))
theorem row_mem {rs : FM.Rows Str} (nd : (FM.names rs).Nodup) {i : Nat} {r : R} (h : rs[i]? = some r) : r.n ∈ FM.names rs ∧ FM.lv rs r.n = r.l ∧ FM.vl rs r.n = r.v := by
  have hm := FM.mem_names (List.mem_of_getElem? h)
  have hp := pl_get nd h
  unfold FM.lv FM.vl
  rw [hp, h]
  exact ⟨hm, rfl, rfl⟩
theorem filt_snoc {f : R → Bool} {rs : FM.Rows Str} {i : Nat} {r : R} (h : rs[i]? = some r) : FM.names ((rs.take (i + 1)).filter f) = FM.names ((rs.take i).filter f) ++ (if f r = true then [r.n] else []) := by
  rw [take_snoc h, List.filter_append, FM.names_app]
  congr 1
  by_cases hf : f r = true
  · rw [if_pos hf]; simp [FM.names, hf]
  · rw [if_neg hf]; simp [FM.names, hf]
section
variable {P : Program} {w : World} {K : PySem.W.Frag} {mg : Str → Option Value} {base : Heap}
theorem ok_roots (T : Tx K mg) : MFn P w K mg base (CF K) "roots" CX0 3 ["self"] (spRoots K) := by
  obtain ⟨fd, F⟩ := T.d_F_roots
  refine mfn T.me_Forest_roots F (F.bindsN fun _ _ _ _ _ _ us hl => match us, hl with | [_], _ => rfl) (ok0 F sc_F_roots (fun vs H Q E h => ?_) fun cdv A outer s H vs Q E hr h => ?_)
  · obtain ⟨p, rs, rfl, _⟩ := h; rfl
  · obtain ⟨p, rs, rfl, G, ok, q⟩ := h
    refine ⟨_, pss_one (ps_ret (pe_lc (own := [("name", 1)]) (g := gName 1) (tt := tTest (tOp (rEqD K) (tMeth (CF K) "line_to" (spLine K) [] E00 (tVar 0) (tCons (tVar 1) tNil)) (tLst tNil))) rfl sc_F_roots.nd (pi_seqA (pe_m0 T.cl_Forest (ok_names T) hr pass0 (pv 0))) (blkOk_by (N := N_F_roots) (sc := defScope st_F_roots) (by decide +kernel))
      (fun _ _ _ _ _ => pg_name (i := 1) sc_F_roots.nd rfl (.inl rfl)) (fun _ _ _ _ _ => pts_one (pt_cmpR (r := rEqD K) (op_eqD hr.units) (pe_m (E := E00) T.cl_Forest (ok_line_to T) hr pass0 (pv 0) (pa_cons (pv 1) pa_nil)) (pe_lst pa_nil) (nomark _))) (fun _ _ _ _ _ => pv 1))), ?_⟩
    obtain ⟨dx, r, o, d, hp⟩ := G.ins
    have h60 := ok.len
    refine ⟨_, rfl, p, dx, _, rfl, hp, ff_no (by decide +kernel) (by decide +kernel) (by decide +kernel), p, rs, rfl, G, ok, fun l H2 hl e2 h2 => ?_⟩
    refine ⟨l, true, _, rfl, Sk.l h2, fun J S D hD => ?_⟩
    refine lc_by (sVs (FM.names rs)).length (fun i H' => Ex H2 H' ∧ H' D = some (.lst (sVs (FM.names ((rs.take i).filter fun r => decide (r.l = 0)))))) ⟨Ex.new hD, upd_same⟩ (fun i H' hi hP => S.go i H' (Sk.l (hP.1 _ _ h2)) hi) (fun H' hP => S.stop H' (Sk.l (hP.1 _ _ h2))) (fun i x H' H'' hi hP hy => ?_) fun H' hP => ?_
    · obtain ⟨rfl, hx⟩ := S.yld i H' x H'' (Sk.l (hP.1 _ _ h2)) hy
      rw [sVs_len, names_len] at hi
      have hri : rs[i]? = some rs[i] := List.getElem?_eq_getElem hi
      obtain ⟨hm, hlv, _⟩ := row_mem ok.nd hri
      have hx' : x = .str rs[i].n := by
        have : (List.map V.str (FM.names rs))[i]? = some x := hx
        rw [List.getElem?_map, names_get hri] at this
        exact (Option.some.inj this).symm
      subst hx'
      have e4 : Ex H H'' := e2.trans hP.1
      have G4 := G.mono e4
      refine ⟨rfl, _, rfl, p, dx, _, rfl, e4 _ _ hp, ff_no (by decide +kernel) (by decide +kernel) (by decide +kernel), _, rfl, p, rs, _, rfl, G4, ok, hm, fun l2 H5 hl2 e5 h5 => ?_⟩
      refine ⟨Nat.zero_le _, fun g hg => ?_⟩
      have h5' : upd H5 g (.lst []) l2 = some (.lst (sVs (lineL rs rs[i].n))) := by rw [upd_ne (ne_of_none h5 hg)]; exact h5
      refine ⟨.list ((lineL rs rs[i].n).map PyData.str), .list [], .lst (SqL.of h5') sD_all, .lst (SqL.of upd_same) .nil, sD_shaped fun n hn => name_strOk (ok.nms n (anc_mem (List.mem_reverse.mp hn))), by decide +kernel, _, rfl, ?_⟩
      rw [sD_nil]
      have hDv : H'' D = some (.lst (sVs (FM.names ((rs.take i).filter fun r => decide (r.l = 0))))) := hP.2
      have hacc : upd H5 g (.lst []) D = some (.lst (sVs (FM.names ((rs.take i).filter fun r => decide (r.l = 0))))) := (e5.trans (Ex.new hg)) _ _ hP.2
      have e6 : Ex H2 (upd H5 g (.lst [])) := hP.1.trans (e5.trans (Ex.new hg))
      have hz : ∀ (f : R → Bool), (FM.names ((rs.take i).filter f)).length ≤ 60 := fun f => by
        rw [names_len]
        have := (List.filter_sublist (p := f) (l := rs.take i)).length_le
        rw [List.length_take] at this
        omega
      by_cases hr0 : rs[i].l = 0
      · have hnil : lineL rs rs[i].n = [] := by
          refine List.length_eq_zero_iff.mp ?_
          have h7 := lv_len ok hm
          rw [hlv, hr0] at h7
          show (FM.anc rs rs[i].n).reverse.length = 0
          rw [List.length_reverse]
          omega
        refine iteD hnil ⟨_, rfl, _, hacc, szLt (by rw [sVs_len]; exact Nat.lt_of_le_of_lt (hz _) (by decide)), ?_⟩
        refine ⟨e6.mut hD, ?_⟩
        rw [upd_same, filt_snoc hri, if_pos (decide_eq_true hr0), sVs_snoc]
      · have hnil : ¬ lineL rs rs[i].n = [] := fun z => by
          have h7 := lv_len ok hm
          have : (FM.anc rs rs[i].n).reverse = [] := z
          rw [List.reverse_eq_nil_iff] at this
          rw [this, hlv] at h7
          have h7 : ((0 : Nat) : Int) = rs[i].l := h7
          omega
        refine iteDn hnil ⟨e6, ?_⟩
        rw [hacc, filt_snoc hri, if_neg (by rw [decide_eq_false hr0]; exact Bool.false_ne_true), List.append_nil]
    · refine q D H' (Evl.fresh_back e2 hD) (e2.trans hP.1) ?_
      have := hP.2
      rw [sVs_len, names_len, List.take_length] at this
      exact this
end
end K13
end
section
set_option Elab.async false
set_option linter.all false
set_option maxRecDepth 100000
set_option maxHeartbeats 4000000
namespace K13
open PySem PySem.Spec PyProof.Rows L2
open Evl (Ex)
theorem bel_get {rs : FM.Rows Str} (nd : (FM.names rs).Nodup) {n : Str} {i : Nat} {r : R} (h : (FM.bel rs n)[i]? = some r) : r ∈ FM.bel rs n ∧ r.n ∈ FM.names rs ∧ FM.lv rs r.n = r.l := by
  have hm := List.mem_of_getElem? h
  obtain ⟨j, hj⟩ := List.getElem?_of_mem (FM.bel_sub.mem hm)
  obtain ⟨h1, h2, _⟩ := row_mem nd hj
  exact ⟨hm, h1, h2⟩
theorem bel_gt {rs : FM.Rows Str} {n : Str} {r : R} (h : r ∈ FM.bel rs n) : FM.lv rs n < r.l := of_decide_eq_true (FM.tw_all r h)
theorem lv_nn {rs : FM.Rows Str} (ok : Okf rs) {n : Str} (h : n ∈ FM.names rs) : 0 ≤ FM.lv rs n := by
  rw [← lv_len ok h]; exact Int.natCast_nonneg _
/-- index of a name in a list of names -/
theorem ix_name {K : PySem.W.Frag} {H : Hp} {l : Addr} {ns : List Str} {n : Str} {Q : VK} (h : H l = some (.lst (sVs ns))) (hn : n ∈ ns) (q : Q (.int ((ns.idxOf n : Nat) : Int)) H) : rIndex K (.ref l) [.str n] H Q := by
  have hi := idx_get hn
  refine ⟨l, _, .str n, ns.idxOf n, .str n, rfl, rfl, SqL.of h, rfl, flat_strs, ?_, ?_, ?_, q⟩
  · show (List.map V.str _)[_]? = _
    rw [List.getElem?_map, hi]
    rfl
  · show (n == n) = true
    exact beq_self_eq_true n
  · intro m z' hm hz
    have hz : (List.map V.str ns)[m]? = some z' := hz
    rw [List.getElem?_map] at hz
    obtain ⟨y, hy, rfl⟩ := Option.map_eq_some_iff.mp hz
    show (y == n) = false
    obtain ⟨hlt, e⟩ := List.getElem?_eq_some_iff.mp hy
    rw [← e]
    exact List.not_of_lt_findIdx (p := (· == n)) (xs := ns) (i := m) hm
section
variable {P : Program} {w : World} {K : PySem.W.Frag} {mg : Str → Option Value} {base : Heap}
theorem ok_children_of (T : Tx K mg) : MFn P w K mg base (CF K) "children_of" CX0 3 ["self", "name"] (spKids K) := by
  obtain ⟨fd, F⟩ := T.d_F_children_of
  refine mfn T.me_Forest_children_of F (F.bindsN fun _ _ _ _ _ _ us hl => match us, hl with | [_, _], _ => rfl) (ok0 F sc_F_children_of (fun vs H Q E h => ?_) fun cdv A outer s H vs Q E hr h => ?_)
  · obtain ⟨p, rs, n, rfl, _⟩ := h; rfl
  · obtain ⟨p, rs, n, rfl, G0, ok, hn, q⟩ := h
    refine ⟨_, pss_cons (ps_expr (pe_m T.cl_Forest (ok_check_nodes T) hr pass0 (pv 0) (pa_cons (pe_lst (pa_cons (pv 1) pa_nil)) pa_nil))) (pss_one (ps_ret (pe_lc (own := [("other", 2)]) (g := gName 2) (tt := tTest (tOp rEq (tOp (rIxL K) (tMeth (CF K) "line_to" (spLine K) [] E00 (tVar 0) (tCons (tVar 2) tNil)) (tUn (rU fun i => .int (-i)) (tC (.int 1)))) (tVar 1))) rfl sc_F_children_of.nd (pi_seqA (pe_m T.cl_Forest (ok_below T) hr pass0 (pv 0) (pa_cons (pv 1) pa_nil))) (blkOk_by (N := N_F_children_of) (sc := defScope st_F_children_of) (by decide +kernel))
      (fun _ _ _ _ _ => pg_name (i := 2) sc_F_children_of.nd rfl (.inl rfl)) (fun _ _ _ _ _ => pts_one (pt_cmpR (r := rEq) op_eq (pe_ix (r := rIxL K) ix_list (pe_m (E := E00) T.cl_Forest (ok_line_to T) hr pass0 (pv 0) (pa_cons (pv 2) pa_nil)) (pe_un un_neg pe_int) (fun _ _ => rfl)) (pv 1) (nomark _))) (fun _ _ _ _ _ => pv 2)))), ?_⟩
    refine rd_check G0 ok hn rfl rfl fun H1 e1 G => ?_
    obtain ⟨dx, r, o, d, hp⟩ := G.ins
    have h60 := ok.len
    have hb60 : (FM.bel rs n).length ≤ 60 := by
      have := (FM.bel_sub (rs := rs) (n := n)).length_le
      omega
    refine ⟨_, rfl, p, dx, _, rfl, hp, ff_no (by decide +kernel) (by decide +kernel) (by decide +kernel), _, rfl, p, rs, n, rfl, G, ok, hn, fun l H2 hl e2 h2 => ?_⟩
    refine ⟨l, true, _, rfl, Sk.l h2, fun J S D hD => ?_⟩
    refine lc_by (sVs (FM.names (FM.bel rs n))).length (fun i H' => Ex H2 H' ∧ H' D = some (.lst (sVs (FM.names (((FM.bel rs n).take i).filter fun r => decide (r.l = FM.lv rs n + 1)))))) ⟨Ex.new hD, upd_same⟩ (fun i H' hi hP => S.go i H' (Sk.l (hP.1 _ _ h2)) hi) (fun H' hP => S.stop H' (Sk.l (hP.1 _ _ h2))) (fun i x H' H'' hi hP hy => ?_) fun H' hP => ?_
    · obtain ⟨e0, hx⟩ := S.yld i H' x H'' (Sk.l (hP.1 _ _ h2)) hy
      subst e0
      rw [sVs_len, names_len] at hi
      have hri : (FM.bel rs n)[i]? = some (FM.bel rs n)[i] := List.getElem?_eq_getElem hi
      generalize (FM.bel rs n)[i] = r0 at hri
      obtain ⟨hmb, hm, hlv⟩ := bel_get ok.nd hri
      have hx' : x = .str r0.n := by
        have : (List.map V.str (FM.names (FM.bel rs n)))[i]? = some x := hx
        rw [List.getElem?_map, names_get hri] at this
        exact (Option.some.inj this).symm
      subst hx'
      have e4 : Ex H1 H'' := e2.trans hP.1
      have G4 := G.mono e4
      refine ⟨rfl, _, rfl, p, dx, _, rfl, e4 _ _ hp, ff_no (by decide +kernel) (by decide +kernel) (by decide +kernel), _, rfl, p, rs, _, rfl, G4, ok, hm, fun l2 H5 hl2 e5 h5 => ?_⟩
      have hgt := bel_gt hmb
      have hnn := lv_nn ok hn
      have hlen := lv_len ok hm
      have hpar := FM.bel_par ok.st ok.nd hn hmb
      have hz : ∀ (f : R → Bool), (FM.names (((FM.bel rs n).take i).filter f)).length ≤ 60 := fun f => by
        rw [names_len]
        have := (List.filter_sublist (p := f) (l := (FM.bel rs n).take i)).length_le
        rw [List.length_take] at this
        omega
      cases ha : FM.anc rs r0.n with
      | nil =>
        rw [ha, hlv] at hlen
        have hlen : ((0 : Nat) : Int) = r0.l := hlen
        omega
      | cons a as =>
        have hp0 : FM.par rs r0.n = some a := by unfold FM.par; rw [ha]; rfl
        rw [hp0] at hpar
        refine ⟨_, rfl, l2, _, -1, _, rfl, rfl, SqL.of h5, anc_last ha, _, rfl, rfl, _, rfl, ?_⟩
        by_cases hr0 : r0.l = FM.lv rs n + 1
        · have := Option.some.inj (hpar.mpr hr0)
          subst this
          refine iteD rfl ⟨_, rfl, _, e5 _ _ hP.2, szLt (by rw [sVs_len]; exact Nat.lt_of_le_of_lt (hz _) (by decide)), (hP.1.trans e5).mut hD, ?_⟩
          rw [upd_same, filt_snoc hri, if_pos (decide_eq_true hr0), sVs_snoc]
        · refine iteDn (fun z => hr0 (hpar.mp (congrArg some (V.str.inj z)))) ⟨hP.1.trans e5, ?_⟩
          rw [e5 _ _ hP.2, filt_snoc hri, if_neg (by rw [decide_eq_false hr0]; exact Bool.false_ne_true), List.append_nil]
    · refine q D H' (Evl.fresh_back (e1.trans e2) hD) ((e1.trans e2).trans hP.1) ?_
      have := hP.2
      rw [sVs_len, names_len, List.take_length] at this
      exact this
theorem ok_rank_of (T : Tx K mg) : MFn P w K mg base (CF K) "rank_of" CX0 4 ["self", "name"] (spOf K fun rs n => ((FM.rank rs n : Nat) : Int)) := by
  obtain ⟨fd, F⟩ := T.d_F_rank_of
  refine mfn T.me_Forest_rank_of F (F.bindsN fun _ _ _ _ _ _ us hl => match us, hl with | [_, _], _ => rfl) (ok0 F sc_F_rank_of (fun vs H Q E h => ?_) fun cdv A outer s H vs Q E hr h => ?_)
  · obtain ⟨p, rs, n, rfl, _⟩ := h; rfl
  · obtain ⟨p, rs, n, rfl, G, ok, hn, q⟩ := h
    refine ⟨_, pss_cons (ps_set (i := 2) sc_F_rank_of.nd rfl (.inl rfl) (pe_m T.cl_Forest (ok_parent_of T) hr pass0 (pv 0) (pa_cons (pv 1) pa_nil)))
      (pss_cons (ps_set (i := 3) sc_F_rank_of.nd rfl (.inl rfl) (pe_ifExp (pt_cmpR op_isN (pv 2) pe_non (nomark _)) (pe_m0 T.cl_Forest (ok_roots T) hr pass0 (pv 0)) (pe_m T.cl_Forest (ok_children_of T) hr pass0 (pv 0) (pa_cons (pv 2) pa_nil))))
      (pss_one (ps_ret (pe_bm PySem.F.plainAttrs_list PySem.F.slot_list_index PySem.F.type_list_index mt_index (pv 3) (pa_cons (pv 1) pa_nil))))), ?_⟩
    obtain ⟨dx, r, o, d, hp⟩ := G.ins
    refine ⟨_, rfl, p, dx, _, rfl, hp, ff_no (by decide +kernel) (by decide +kernel) (by decide +kernel), _, rfl, p, rs, n, rfl, G, ok, hn, fun H1 e1 => ?_⟩
    have hk := FM.mem_kids ok.st ok.nd hn
    have fin : ∀ l H2, Ex H H2 → H2 l = some (.lst (sVs (FM.kidsOf rs (FM.par rs n)))) → tRet (tBM K "list" (rIndex K) (tVar 3) (tCons (tVar 1) tNil)) { nx := fun _ H' => Q .non H', rt := Q } [some (.ref p), some (.str n), some (optV (FM.par rs n)), some (.ref l)] H2 := fun l H2 e2 h2 =>
      ⟨_, rfl, .inl ⟨rfl, _, SqL.of h2⟩, _, rfl, ix_name h2 hk (q _ e2)⟩
    refine ⟨_, rfl, rfl, _, rfl, ?_⟩
    cases hpar : FM.par rs n with
    | none =>
      rw [hpar] at fin
      exact iteT ⟨_, rfl, p, dx, _, rfl, e1 _ _ hp, ff_no (by decide +kernel) (by decide +kernel) (by decide +kernel), p, rs, rfl, G.mono e1, ok, fun l H2 hl e2 h2 => fin l H2 (e1.trans e2) h2⟩
    | some m =>
      rw [hpar] at fin
      exact iteF ⟨_, rfl, p, dx, _, rfl, e1 _ _ hp, ff_no (by decide +kernel) (by decide +kernel) (by decide +kernel), _, rfl, p, rs, m, rfl, G.mono e1, ok, FM.mem_of_par hpar, fun l H2 hl e2 h2 => fin l H2 (e1.trans e2) h2⟩
end
end K13
end
section
set_option Elab.async false
set_option linter.all false
set_option maxRecDepth 100000
set_option maxHeartbeats 4000000
namespace K13
open PySem PySem.Spec PyProof.Rows L2
open Evl (Ex)
section
variable {X : Cx} {CX : CXT} {n : Nat} {C f : Addr} {fd : FuncData} {ps : List Str} {sp : Sp} {E : XK}
/-- a call of a def from within a builtin -/
theorem run_sub {A : Around} {pins : List (Addr × Obj)} {σ : L2.St} {H : Hp} {s : Shared} {vs : List V} {us : List Value} {Q : VK} (F : FnOk X.prog X.w X.K X.mg X.base CX n f fd ps sp) (hb : Binds X.K fd ps []) (hx : Passes CX X E) (sb : Sub X n A) (I : L2.Inv X pins σ H s) (r : Vals vs us) (h : sp vs H Q E) :
    wpAny (model X.prog X.w) A (call (.ref f) us) (EP X pins σ Q) X.xe s := by
  have e0 : Env0 X.prog X.w X.K X.mg X.base A X.stack s H := by
    have e := I.env0
    exact ⟨by rw [sb.fr]; exact e.frames, e.mod, e.bs, e.bsz, e.funs, e.frf, e.hok, e.bare⟩
  have hl := F.len _ _ _ _ h
  have hu := r.length
  refine wpAny_call (codeAny_mono (F.run A X.stack s H ⟨us, []⟩ us vs _ E sb.room e0 (by
    have := hb s us I.kIn (by rw [List.append_nil, ← hu]; exact hl)
    simpa using this) r h) fun r s' hq => ?_)
  cases r with
  | error e => exact hx pins σ H s e s' I hq
  | ok fl =>
    cases fl with
    | ret w => exact I.after hq
    | next => exact False.elim hq
    | brk => exact False.elim hq
    | cont => exact False.elim hq
theorem slot_one : (1 : Nat) = 1 := rfl
theorem sl_ne : Slot "object" "__ne__" "object.__ne__" := PySem.F.cmp_object.ne
/-- x != y of two instances of one class with an own == and object's own != -/
def rNeO (C : Addr) (sp : Sp) (E : XK) : R2 := fun x y H Q => ∃ a b dx dy fs gs, x = .ref a ∧ y = .ref b ∧ H a = some (.ins C dx fs) ∧ H b = some (.ins C dy gs) ∧ sp [.ref a, .ref b] H (fun v H' => ∃ k, v = .bl k ∧ Q (.bl (!k)) H') E
theorem op_neO (F : FnOk X.prog X.w X.K X.mg X.base CX n f fd ps sp) (hs : PySem.W.findIn X.K (.ref C) "__eq__" = some (some (.ref f))) (hn : PySem.W.findIn X.K (.ref C) "__ne__" = some (some (.builtin "object.__ne__")))
    (ho : PySem.W.mroIn X.K C (.type "object") = some true) (hf : PySem.W.isFn X.K (.ref f) = true) (hb : Binds X.K fd ps []) (hx : Passes CX X E) (hr : Room (n + 1) X.A) : OpR X (compareOp .NotEq) (rNeO C sp E) := by
  intro pins s σ H x y v u Q I rx ry h
  obtain ⟨a, b, dx, dy, fs, gs, rfl, rfl, ha, hb', hsp⟩ := h
  cases rx
  cases ry
  obtain ⟨mA, J, _⟩ := ins_get I.hok ha
  obtain ⟨mB, J', _⟩ := ins_get I.hok hb'
  obtain ⟨od, J, _⟩ := J.look
  obtain ⟨od', J', _⟩ := J'.look
  have KX := I.kIn
  have sb : Sub X (n + 1) X.A := ⟨hr, rfl⟩
  have run := run_sub F hb hx sb.in1 I (vs := [V.ref a, V.ref b]) (us := [Value.ref a, Value.ref b]) (.cons rfl (.cons rfl .nil)) hsp
  -- the body of object's !=
  have body : wpAny (model X.prog X.w) X.A.in1 (Builtin.«object.__ne__» ⟨[.ref a, .ref b], []⟩) (fun fin s' => ∃ k, fin = .done (.ret (.bool k)) ∧ ∃ H', L2.Inv X pins σ H' s' ∧ Q (.bl k) H') X.xe s := by
    unfold Builtin.«object.__ne__»
    refine wpAny_bind (m := slotArgs "__ne__" 1 _) (wpAny_pure ?_)
    dsimp only
    refine wpAny_bind (wpAny_cRoomFor (by have := sb.in1.room.units0; exact this) ?_)
    refine wpAny_bind (PySem.W.ifBound_K KX J hs hf (wpAny_mono run (fun v s' hv => ?_) fun _ _ e => e))
    obtain ⟨z, H', I', rz, k, rfl, hq⟩ := hv
    cases rz
    dsimp only
    refine wpAny_bind (wpAny_truthy_bool ?_)
    exact wpAny_pure ⟨_, rfl, H', I', hq⟩
  have one : wpAny (model X.prog X.w) X.A (tryCompare (.ref a) "__ne__" (.ref b)) (fun r s' => ∃ k, r = some (.bool k) ∧ ∃ H', L2.Inv X pins σ H' s' ∧ Q (.bl k) H') X.xe s := by
    have hcall : wpAny (model X.prog X.w) X.A (call (.builtin "object.__ne__") [.ref a, .ref b]) (fun v s' => ∃ k, v = .bool k ∧ ∃ H', L2.Inv X pins σ H' s' ∧ Q (.bl k) H') X.xe s := by
      refine wpAny_call (codeAny_call_builtin sl_ne.plain PySem.F.cmpEntry_ne (PySem.W.check_slot PySem.F.cmpKind_ne PySem.F.cmpSplit_ne (J.type.andThen (PySem.W.looks_mroIn KX ho)) (PySem.F.cmpArgs_ne _ _) (wpAny_mono body (fun fin s' hf => ?_) fun _ _ e => e)))
      obtain ⟨k, rfl, hq⟩ := hf
      exact ⟨k, rfl, hq⟩
    have two : wpAny (model X.prog X.w) X.A (callSpecialIfBound? (.ref a) "__ne__" [.ref b]) (fun r s' => ∃ k, r = some (.bool k) ∧ ∃ H', L2.Inv X pins σ H' s' ∧ Q (.bl k) H') X.xe s := by
      simp only [callSpecialIfBound?, bindSpecialIfBound?]
      refine wpAny_holding (wpAny_bind (wpAny_bind (wpAny_bind (J.type.here ((PySem.W.looks_findIn KX hn).here ?_)))))
      simp only [sl_ne.bind]
      refine wpAny_bind (wpAny_askSetting (wpAny_ite ?_))
      have fin : wpAny (model X.prog X.w) X.A (call (.builtin "object.__ne__") ([.ref a] ++ [.ref b]) >>= fun v => pure (some v)) (fun r s' => ∃ k, r = some (.bool k) ∧ ∃ H', L2.Inv X pins σ H' s' ∧ Q (.bl k) H') X.xe s :=
        wpAny_bind (wpAny_mono hcall (fun v s' ⟨k, e, h'⟩ => wpAny_pure ⟨k, by rw [e], h'⟩) fun _ _ h' => h')
      split
      · exact wpAny_bind (wpAny_pure (wpAny_pure fin))
      · exact wpAny_tryCatch (wpAny_bind (wpAny_pure (wpAny_pure fin)))
    unfold tryCompare
    refine wpAny_bind (wpAny_mono two (fun r s' hr => ?_) fun _ _ e => e)
    obtain ⟨k, rfl, h'⟩ := hr
    exact wpAny_pure ⟨k, rfl, h'⟩
  unfold compareOp richCompare
  simp only [oneThing_ref]
  refine wpAny_holding ?_
  refine wpAny_bind (wpAny_cRoomFor hr.units0 ?_)
  rw [cmpInfo_NotEq]
  dsimp only
  refine wpAny_bind (J.type.here (wpAny_bind (J'.type.here ?_)))
  rw [show (Value.ref C != Value.ref C) = false from by simp]
  simp only [Bool.false_eq_true, if_false]
  refine wpAny_bind (wpAny_pure ?_)
  simp only [Bool.false_eq_true, if_false]
  refine wpAny_bind (wpAny_mono one (fun r s' hr => ?_) fun _ _ e => e)
  obtain ⟨k, rfl, H', I', hq⟩ := hr
  exact wpAny_pure ⟨.bl k, H', I', rfl, hq⟩
/-- len(x) of an instance with an own length -/
def rLenO (C : Addr) (sp : Sp) (E : XK) : List V → Hp → VK → Prop := fun xs H Q => ∃ a dx fs, xs = [.ref a] ∧ H a = some (.ins C dx fs) ∧ sp [.ref a] H (fun v H' => ∃ i, v = .int i ∧ 0 ≤ i ∧ i < 2 ^ 63 ∧ Q (.int i) H') E
theorem call_lenO (F : FnOk X.prog X.w X.K X.mg X.base CX n f fd ps sp) (hs : PySem.W.findIn X.K (.ref C) "__len__" = some (some (.ref f)))
    (hf : PySem.W.isFn X.K (.ref f) = true) (hb : Binds X.K fd ps []) (hx : Passes CX X E) (hr : Room (n + 1) X.A) : CallR X (.builtin "len") (rLenO C sp E) := by
  intro pins s σ H xs us Q I r h
  obtain ⟨a, dx, fs, rfl, ha, hsp⟩ := h
  obtain ⟨u, rfl, ru⟩ := vals1 r
  cases ru
  obtain ⟨mA, J, _⟩ := ins_get I.hok ha
  obtain ⟨od, J, _⟩ := J.look
  obtain ⟨m, hF⟩ := I.fr
  have sb : Sub X (n + 1) X.A := ⟨hr, rfl⟩
  have run := run_sub F hb hx sb.in1 I (vs := [V.ref a]) (us := [Value.ref a]) (.cons rfl .nil) hsp
  refine PySem.W.len_K hF I.ok.mod.kin J hs hf (wpAny_mono run (fun v s' hv => ?_) fun _ _ e => e)
  obtain ⟨z, H', I', rz, i, rfl, h0, h1, hq⟩ := hv
  obtain ⟨t, rfl⟩ := rz
  exact ⟨⟨h0, h1⟩, .int i, H', I'.tok _, ⟨_, rfl⟩, hq⟩
end
/-! ## rows as data -/
def rowD (r : R) : PyData := .tuple [.str r.n, .int r.v, .int r.l]
def rowsD (rs : FM.Rows Str) : PyData := .tuple (rs.map rowD)
theorem rowD_eqv (a b : R) : PyData.eqv (rowD a) (rowD b) = decide (a = b) := by
  obtain ⟨n, v, l⟩ := a
  obtain ⟨n', v', l'⟩ := b
  have e : PyData.eqv (rowD ⟨n, v, l⟩) (rowD ⟨n', v', l'⟩) = ((n == n') && ((v == v') && ((l == l') && true))) := by simp only [rowD, PyData.eqv, PyData.eqvAll]
  rw [e]
  by_cases h : (⟨n, v, l⟩ : R) = ⟨n', v', l'⟩
  · cases h
    simp
  · rw [decide_eq_false h]
    by_cases h1 : n = n'
    · by_cases h2 : v = v'
      · by_cases h3 : l = l'
        · exact absurd (by rw [h1, h2, h3]) h
        · simp [h3]
      · simp [h2]
    · simp [h1]
theorem rowsD_eqvAll : ∀ (a b : FM.Rows Str), PyData.eqvAll (a.map rowD) (b.map rowD) = decide (a = b)
  | [], [] => by simp [PyData.eqvAll]
  | [], y :: b => by simp [PyData.eqvAll]
  | x :: a, [] => by simp [PyData.eqvAll]
  | x :: a, y :: b => by
    have e : PyData.eqvAll ((x :: a).map rowD) ((y :: b).map rowD) = (PyData.eqv (rowD x) (rowD y) && PyData.eqvAll (a.map rowD) (b.map rowD)) := by simp only [List.map_cons, PyData.eqvAll]
    rw [e, rowD_eqv, rowsD_eqvAll a b]
    by_cases h1 : x = y
    · by_cases h2 : a = b
      · simp [h1, h2]
      · simp [h1, h2]
    · simp [h1]
theorem rowsD_eqv (a b : FM.Rows Str) : PyData.eqv (rowsD a) (rowsD b) = decide (a = b) := by
  have e : PyData.eqv (rowsD a) (rowsD b) = PyData.eqvAll (a.map rowD) (b.map rowD) := by simp only [rowsD, PyData.eqv]
  rw [e, rowsD_eqvAll]
theorem rowsD_lay : ∀ {rs : FM.Rows Str}, (∀ r ∈ rs, PyData.strOk r.n = true) → PyData.canLayAll0 (rs.map rowD) = true
  | [], _ => by simp [PyData.canLayAll0]
  | x :: l, h => by simp [PyData.canLayAll0, PyData.canLay0, rowD, h x List.mem_cons_self, rowsD_lay (rs := l) fun n hn => h n (List.mem_cons_of_mem _ hn)]
theorem rowsD_depth : ∀ {rs : FM.Rows Str}, PyData.depthAll (rs.map rowD) ≤ 1
  | [] => by simp [PyData.depthAll]
  | x :: l => by
    have := rowsD_depth (rs := l)
    have e : PyData.depthAll ((x :: l).map rowD) = max (PyData.depth (rowD x)) (PyData.depthAll (l.map rowD)) := by simp only [List.map_cons, PyData.depthAll]
    have e2 : PyData.depth (rowD x) = 1 := by simp [rowD, PyData.depth, PyData.depthAll]
    rw [e, e2]
    omega
theorem rowsD_shaped {rs : FM.Rows Str} (ok : Okf rs) : SeqAt.shaped (rowsD rs) = true := by
  show (PyData.canLay0 _ && decide (PyData.depth _ ≤ 64)) = true
  rw [Bool.and_eq_true]
  refine ⟨?_, decide_eq_true ?_⟩
  · simp only [rowsD, PyData.canLay0]
    exact rowsD_lay fun r hr => name_strOk (ok.nms _ (FM.mem_names hr))
  · simp only [rowsD, PyData.depth]
    have := rowsD_depth (rs := rs)
    omega
theorem rowsD_all {K : PySem.W.Frag} {H : Hp} : ∀ {vs : List V} {rs : FM.Rows Str}, RowsAt H vs rs → DpAll K H vs (rs.map rowD)
  | [], [], _ => .nil
  | [], _ :: _, h => h.elim
  | _ :: _, [], h => h.elim
  | _ :: _, r :: _, ⟨⟨q, e, h1⟩, h2⟩ => by
    subst e
    exact .cons (.tup (SqT.of h1) (.cons (.str _) (.cons (.int _) (.cons (.int _) .nil)))) (rowsD_all h2)
theorem rowsD_dp {K : PySem.W.Frag} {H : Hp} {r : Addr} {vs : List V} {rs : FM.Rows Str} (h : H r = some (.tup vs)) (a : RowsAt H vs rs) : Dp K H (.ref r) (rowsD rs) := .tup (SqT.of h) (rowsD_all a)
def spFEq (K : PySem.W.Frag) : Sp := fun vs H Q _ => ∃ p p' rs rs', vs = [.ref p, .ref p'] ∧ ForestAt K H p rs ∧ ForestAt K H p' rs' ∧ Okf rs ∧ Okf rs' ∧ Q (.bl (decide (rs = rs'))) H
section
variable {P : Program} {w : World} {K : PySem.W.Frag} {mg : Str → Option Value} {base : Heap}
theorem ok_F_eq (T : Tx K mg) : MFn P w K mg base (CF K) "__eq__" CX0 1 ["self", "other"] (spFEq K) := by
  obtain ⟨fd, F⟩ := T.d_F_eq_
  refine mfn T.me_Forest_eq_ F (F.bindsN fun _ _ _ _ _ _ us hl => match us, hl with | [_, _], _ => rfl) (ok0 F sc_F_eq_ (fun vs H Q E h => ?_) fun cdv A outer s H vs Q E hr h => ?_)
  · obtain ⟨p, p', rs, rs', rfl, _⟩ := h; rfl
  · obtain ⟨p, p', rs, rs', rfl, ⟨dx, r, o, d, vs, kvs, G⟩, ⟨dx', r', o', d', vs', kvs', G'⟩, ok, ok', q⟩ := h
    refine ⟨_, pss_one (ps_ret (pe_and (pe_callB call_isi rfl T.z_isinstance b_isinstance (pa_cons (pv 1) (pa_cons (pe_glob (v := .ref (CF K)) rfl T.g_Forest rfl) pa_nil)))
      (pe_one (pe_cmpR (op_eqD hr.units) (pe_fld (pv 0) rfl) (pe_fld (pv 1) rfl) (nomark _))))), ?_⟩
    refine ⟨_, rfl, _, _, _, _, _, rfl, .own _, .base (.ins G'.ins T.cl_Forest T.cc_Forest T.cg T.ct T.co_Forest), T.k_Forest_Forest, _, rfl, iteT ?_⟩
    exact ⟨_, rfl, p, _, dx, _, _, rfl, G.ins, T.cl_Forest, T.no_Forest_rows, ff_rows, _, rfl, p', _, dx', _, _, rfl, G'.ins, T.cl_Forest, T.no_Forest_rows, ff_rows, _, _, rowsD_dp G.rows G.at_, rowsD_dp G'.rows G'.at_, rowsD_shaped ok, rowsD_shaped ok', by rw [rowsD_eqv]; exact q⟩
/-- a != b of two forests, len(a) of one -/
theorem f_ne {X : Cx} (T : Tx X.K X.mg) (hr : Room 2 X.A) : OpR X (compareOp .NotEq) (rNeO (CF X.K) (spFEq X.K) E00) := by
  obtain ⟨f, fd, hm, hb, F⟩ := ok_F_eq (P := X.prog) (w := X.w) (base := X.base) T
  exact op_neO F hm.at_ T.ne_Forest T.co_Forest hm.fn hb pass0 hr
theorem f_len {X : Cx} (T : Tx X.K X.mg) (hr : Room 2 X.A) : CallR X (.builtin "len") (rLenO (CF X.K) (spLen X.K) E00) := by
  obtain ⟨f, fd, hm, hb, F⟩ := ok_flen (P := X.prog) (w := X.w) (base := X.base) T
  exact call_lenO F hm.at_ hm.fn hb pass0 hr
end
end K13
end
section
set_option Elab.async false
set_option linter.all false
set_option maxRecDepth 100000
set_option maxHeartbeats 4000000
namespace K13
open PySem PySem.Spec PyProof.Rows L2
open Evl (Ex)
/-! ## deeds -/
inductive DV where
  | put (n v p r : V)
  | move (n p r : V)
  | cut (n : V)
  | lift (n : V)
  | wrap (n v p f l : V)
  | rev (p : V)
  | setv (n v : V)
def DV.cls : DV → Str
  | .put n v p r => "Put"
  | .move n p r => "Move"
  | .cut n => "Cut"
  | .lift n => "Lift"
  | .wrap n v p f l => "Wrap"
  | .rev p => "Reverse"
  | .setv n v => "SetValue"
def DV.word : DV → Str
  | .put n v p r => "put"
  | .move n p r => "move"
  | .cut n => "cut"
  | .lift n => "lift"
  | .wrap n v p f l => "wrap"
  | .rev p => "reverse"
  | .setv n v => "setvalue"
def DV.args : DV → List V
  | .put n v p r => [n, v, p, r]
  | .move n p r => [n, p, r]
  | .cut n => [n]
  | .lift n => [n]
  | .wrap n v p f l => [n, v, p, f, l]
  | .rev p => [p]
  | .setv n v => [n, v]
def DV.fs : DV → List (Str × V)
  | .put n v p r => putF "rank" r (putF "parent" p (putF "value" v (putF "name" n [])))
  | .move n p r => putF "rank" r (putF "parent" p (putF "name" n []))
  | .cut n => putF "name" n []
  | .lift n => putF "name" n []
  | .wrap n v p f l => putF "last" l (putF "first" f (putF "parent" p (putF "value" v (putF "name" n []))))
  | .rev p => putF "parent" p []
  | .setv n v => putF "value" v (putF "name" n [])
def DV.nm : DV → V
  | .put n v p r => n
  | .move n p r => n
  | .cut n => n
  | .lift n => n
  | .wrap n v p f l => n
  | .rev p => .non
  | .setv n v => n
def DV.vl : DV → V
  | .put n v p r => v
  | .move n p r => .non
  | .cut n => .non
  | .lift n => .non
  | .wrap n v p f l => v
  | .rev p => .non
  | .setv n v => v
def DV.pr : DV → V
  | .put n v p r => p
  | .move n p r => p
  | .cut n => .non
  | .lift n => .non
  | .wrap n v p f l => p
  | .rev p => p
  | .setv n v => .non
def DV.rk : DV → V
  | .put n v p r => r
  | .move n p r => r
  | .cut n => .non
  | .lift n => .non
  | .wrap n v p f l => .non
  | .rev p => .non
  | .setv n v => .non
def DV.fi : DV → V
  | .put n v p r => .non
  | .move n p r => .non
  | .cut n => .non
  | .lift n => .non
  | .wrap n v p f l => f
  | .rev p => .non
  | .setv n v => .non
def DV.la : DV → V
  | .put n v p r => .non
  | .move n p r => .non
  | .cut n => .non
  | .lift n => .non
  | .wrap n v p f l => l
  | .rev p => .non
  | .setv n v => .non
def DV.named : DV → Bool
  | .put n v p r => false
  | .move n p r => true
  | .cut n => true
  | .lift n => true
  | .wrap n v p f l => false
  | .rev p => false
  | .setv n v => true
def DV.new : DV → Bool
  | .put n v p r => true
  | .move n p r => false
  | .cut n => false
  | .lift n => false
  | .wrap n v p f l => true
  | .rev p => false
  | .setv n v => false
def DV.valued : DV → Bool
  | .put n v p r => true
  | .move n p r => false
  | .cut n => false
  | .lift n => false
  | .wrap n v p f l => true
  | .rev p => false
  | .setv n v => true
def DV.under : DV → Bool
  | .put n v p r => true
  | .move n p r => true
  | .cut n => false
  | .lift n => false
  | .wrap n v p f l => true
  | .rev p => true
  | .setv n v => false
def DV.hasName : DV → Bool
  | .put n v p r => true
  | .move n p r => true
  | .cut n => true
  | .lift n => true
  | .wrap n v p f l => true
  | .rev p => false
  | .setv n v => true
def DV.isPut : DV → Bool
  | .put n v p r => true
  | .move n p r => false
  | .cut n => false
  | .lift n => false
  | .wrap n v p f l => false
  | .rev p => false
  | .setv n v => false
def DV.isMove : DV → Bool
  | .put n v p r => false
  | .move n p r => true
  | .cut n => false
  | .lift n => false
  | .wrap n v p f l => false
  | .rev p => false
  | .setv n v => false
def DV.isCut : DV → Bool
  | .put n v p r => false
  | .move n p r => false
  | .cut n => true
  | .lift n => false
  | .wrap n v p f l => false
  | .rev p => false
  | .setv n v => false
def DV.isLift : DV → Bool
  | .put n v p r => false
  | .move n p r => false
  | .cut n => false
  | .lift n => true
  | .wrap n v p f l => false
  | .rev p => false
  | .setv n v => false
def DV.isWrap : DV → Bool
  | .put n v p r => false
  | .move n p r => false
  | .cut n => false
  | .lift n => false
  | .wrap n v p f l => true
  | .rev p => false
  | .setv n v => false
def DV.isReverse : DV → Bool
  | .put n v p r => false
  | .move n p r => false
  | .cut n => false
  | .lift n => false
  | .wrap n v p f l => false
  | .rev p => true
  | .setv n v => false
def DV.isSetValue : DV → Bool
  | .put n v p r => false
  | .move n p r => false
  | .cut n => false
  | .lift n => false
  | .wrap n v p f l => false
  | .rev p => false
  | .setv n v => true
def DeedAt (K : PySem.W.Frag) (H : Hp) (a : Addr) (d : DV) : Prop := ∃ dx, H a = some (.ins (He.ga K d.cls) dx d.fs)
theorem DeedAt.mono {K : PySem.W.Frag} {H H' : Hp} {a : Addr} {d : DV} (e : Ex H H') : DeedAt K H a d → DeedAt K H' a d := fun ⟨dx, h⟩ => ⟨dx, e _ _ h⟩
theorem fs_get {f : Str} {v : V} {l : List (Str × V)} : (putF f v l).lookup f = some v := by rw [lookup_putF, if_pos rfl]
theorem fs_skip {f g : Str} {v : V} {l : List (Str × V)} (h : ¬ g = f) : (putF f v l).lookup g = l.lookup g := by rw [lookup_putF, if_neg h]
theorem fs_few {n : Nat} {f : Str} {v : V} {l : List (Str × V)} (h : l.length ≤ n) : (putF f v l).length ≤ n + 1 := Nat.le_trans (length_putF f v l) (Nat.succ_le_succ h)
section
variable {K : PySem.W.Frag} {mg : Str → Option Value}
theorem Tx.clD (T : Tx K mg) (d : DV) : Cls K (He.ga K d.cls) := by
  cases d with
  | put _ _ _ _ => exact T.cl_Put
  | move _ _ _ => exact T.cl_Move
  | cut _ => exact T.cl_Cut
  | lift _ => exact T.cl_Lift
  | wrap _ _ _ _ _ => exact T.cl_Wrap
  | rev _ => exact T.cl_Reverse
  | setv _ _ => exact T.cl_SetValue
theorem Tx.kD_Put (T : Tx K mg) (d : DV) : PySem.W.kitOne K (.ref (He.ga K d.cls)) (.ref (He.ga K "Put")) = some d.isPut := by
  cases d with
  | put _ _ _ _ => exact T.k_Put_Put
  | move _ _ _ => exact T.k_Move_Put
  | cut _ => exact T.k_Cut_Put
  | lift _ => exact T.k_Lift_Put
  | wrap _ _ _ _ _ => exact T.k_Wrap_Put
  | rev _ => exact T.k_Reverse_Put
  | setv _ _ => exact T.k_SetValue_Put
theorem Tx.kD_Move (T : Tx K mg) (d : DV) : PySem.W.kitOne K (.ref (He.ga K d.cls)) (.ref (He.ga K "Move")) = some d.isMove := by
  cases d with
  | put _ _ _ _ => exact T.k_Put_Move
  | move _ _ _ => exact T.k_Move_Move
  | cut _ => exact T.k_Cut_Move
  | lift _ => exact T.k_Lift_Move
  | wrap _ _ _ _ _ => exact T.k_Wrap_Move
  | rev _ => exact T.k_Reverse_Move
  | setv _ _ => exact T.k_SetValue_Move
theorem Tx.kD_Cut (T : Tx K mg) (d : DV) : PySem.W.kitOne K (.ref (He.ga K d.cls)) (.ref (He.ga K "Cut")) = some d.isCut := by
  cases d with
  | put _ _ _ _ => exact T.k_Put_Cut
  | move _ _ _ => exact T.k_Move_Cut
  | cut _ => exact T.k_Cut_Cut
  | lift _ => exact T.k_Lift_Cut
  | wrap _ _ _ _ _ => exact T.k_Wrap_Cut
  | rev _ => exact T.k_Reverse_Cut
  | setv _ _ => exact T.k_SetValue_Cut
theorem Tx.kD_Lift (T : Tx K mg) (d : DV) : PySem.W.kitOne K (.ref (He.ga K d.cls)) (.ref (He.ga K "Lift")) = some d.isLift := by
  cases d with
  | put _ _ _ _ => exact T.k_Put_Lift
  | move _ _ _ => exact T.k_Move_Lift
  | cut _ => exact T.k_Cut_Lift
  | lift _ => exact T.k_Lift_Lift
  | wrap _ _ _ _ _ => exact T.k_Wrap_Lift
  | rev _ => exact T.k_Reverse_Lift
  | setv _ _ => exact T.k_SetValue_Lift
theorem Tx.kD_Wrap (T : Tx K mg) (d : DV) : PySem.W.kitOne K (.ref (He.ga K d.cls)) (.ref (He.ga K "Wrap")) = some d.isWrap := by
  cases d with
  | put _ _ _ _ => exact T.k_Put_Wrap
  | move _ _ _ => exact T.k_Move_Wrap
  | cut _ => exact T.k_Cut_Wrap
  | lift _ => exact T.k_Lift_Wrap
  | wrap _ _ _ _ _ => exact T.k_Wrap_Wrap
  | rev _ => exact T.k_Reverse_Wrap
  | setv _ _ => exact T.k_SetValue_Wrap
theorem Tx.kD_Reverse (T : Tx K mg) (d : DV) : PySem.W.kitOne K (.ref (He.ga K d.cls)) (.ref (He.ga K "Reverse")) = some d.isReverse := by
  cases d with
  | put _ _ _ _ => exact T.k_Put_Reverse
  | move _ _ _ => exact T.k_Move_Reverse
  | cut _ => exact T.k_Cut_Reverse
  | lift _ => exact T.k_Lift_Reverse
  | wrap _ _ _ _ _ => exact T.k_Wrap_Reverse
  | rev _ => exact T.k_Reverse_Reverse
  | setv _ _ => exact T.k_SetValue_Reverse
theorem Tx.kD_SetValue (T : Tx K mg) (d : DV) : PySem.W.kitOne K (.ref (He.ga K d.cls)) (.ref (He.ga K "SetValue")) = some d.isSetValue := by
  cases d with
  | put _ _ _ _ => exact T.k_Put_SetValue
  | move _ _ _ => exact T.k_Move_SetValue
  | cut _ => exact T.k_Cut_SetValue
  | lift _ => exact T.k_Lift_SetValue
  | wrap _ _ _ _ _ => exact T.k_Wrap_SetValue
  | rev _ => exact T.k_Reverse_SetValue
  | setv _ _ => exact T.k_SetValue_SetValue
theorem Tx.kD_Thing (T : Tx K mg) (d : DV) : PySem.W.kitOne K (.ref (He.ga K d.cls)) (.ref (He.ga K "Thing")) = some true := by
  cases d with
  | put _ _ _ _ => exact T.k_Put_Thing
  | move _ _ _ => exact T.k_Move_Thing
  | cut _ => exact T.k_Cut_Thing
  | lift _ => exact T.k_Lift_Thing
  | wrap _ _ _ _ _ => exact T.k_Wrap_Thing
  | rev _ => exact T.k_Reverse_Thing
  | setv _ _ => exact T.k_SetValue_Thing
theorem tyD (T : Tx K mg) {H : Hp} {a : Addr} {d : DV} (h : DeedAt K H a d) : TyX K H (.ref a) (.ref (He.ga K d.cls)) := by
  obtain ⟨dx, h⟩ := h
  cases d with
  | put _ _ _ _ => exact .base (.ins h T.cl_Put T.cc_Put T.cg T.ct T.co_Put)
  | move _ _ _ => exact .base (.ins h T.cl_Move T.cc_Move T.cg T.ct T.co_Move)
  | cut _ => exact .base (.ins h T.cl_Cut T.cc_Cut T.cg T.ct T.co_Cut)
  | lift _ => exact .base (.ins h T.cl_Lift T.cc_Lift T.cg T.ct T.co_Lift)
  | wrap _ _ _ _ _ => exact .base (.ins h T.cl_Wrap T.cc_Wrap T.cg T.ct T.co_Wrap)
  | rev _ => exact .base (.ins h T.cl_Reverse T.cc_Reverse T.cg T.ct T.co_Reverse)
  | setv _ _ => exact .base (.ins h T.cl_SetValue T.cc_SetValue T.cg T.ct T.co_SetValue)
theorem fld_nm {d : DV} (h : d.hasName = true) : d.fs.lookup ("name" : Str) = some d.nm := by
  cases d with
  | put n v p r =>
    show List.lookup _ (putF "rank" r (putF "parent" p (putF "value" v (putF "name" n [])))) = _
    rw [fs_skip (by decide +kernel)]
    rw [fs_skip (by decide +kernel)]
    rw [fs_skip (by decide +kernel)]
    exact fs_get
  | move n p r =>
    show List.lookup _ (putF "rank" r (putF "parent" p (putF "name" n []))) = _
    rw [fs_skip (by decide +kernel)]
    rw [fs_skip (by decide +kernel)]
    exact fs_get
  | cut n =>
    show List.lookup _ (putF "name" n []) = _
    exact fs_get
  | lift n =>
    show List.lookup _ (putF "name" n []) = _
    exact fs_get
  | wrap n v p f l =>
    show List.lookup _ (putF "last" l (putF "first" f (putF "parent" p (putF "value" v (putF "name" n []))))) = _
    rw [fs_skip (by decide +kernel)]
    rw [fs_skip (by decide +kernel)]
    rw [fs_skip (by decide +kernel)]
    rw [fs_skip (by decide +kernel)]
    exact fs_get
  | rev _ => cases h
  | setv n v =>
    show List.lookup _ (putF "value" v (putF "name" n [])) = _
    rw [fs_skip (by decide +kernel)]
    exact fs_get
theorem Tx.noD_nm (T : Tx K mg) {d : DV} (h : d.hasName = true) : NoAttr K (He.ga K d.cls) "name" := by
  cases d with
  | put _ _ _ _ => exact T.no_Put_name
  | move _ _ _ => exact T.no_Move_name
  | cut _ => exact T.no_Cut_name
  | lift _ => exact T.no_Lift_name
  | wrap _ _ _ _ _ => exact T.no_Wrap_name
  | rev _ => cases h
  | setv _ _ => exact T.no_SetValue_name
theorem fld_vl {d : DV} (h : d.valued = true) : d.fs.lookup ("value" : Str) = some d.vl := by
  cases d with
  | put n v p r =>
    show List.lookup _ (putF "rank" r (putF "parent" p (putF "value" v (putF "name" n [])))) = _
    rw [fs_skip (by decide +kernel)]
    rw [fs_skip (by decide +kernel)]
    exact fs_get
  | move _ _ _ => cases h
  | cut _ => cases h
  | lift _ => cases h
  | wrap n v p f l =>
    show List.lookup _ (putF "last" l (putF "first" f (putF "parent" p (putF "value" v (putF "name" n []))))) = _
    rw [fs_skip (by decide +kernel)]
    rw [fs_skip (by decide +kernel)]
    rw [fs_skip (by decide +kernel)]
    exact fs_get
  | rev _ => cases h
  | setv n v =>
    show List.lookup _ (putF "value" v (putF "name" n [])) = _
    exact fs_get
theorem Tx.noD_vl (T : Tx K mg) {d : DV} (h : d.valued = true) : NoAttr K (He.ga K d.cls) "value" := by
  cases d with
  | put _ _ _ _ => exact T.no_Put_value
  | move _ _ _ => cases h
  | cut _ => cases h
  | lift _ => cases h
  | wrap _ _ _ _ _ => exact T.no_Wrap_value
  | rev _ => cases h
  | setv _ _ => exact T.no_SetValue_value
theorem fld_pr {d : DV} (h : d.under = true) : d.fs.lookup ("parent" : Str) = some d.pr := by
  cases d with
  | put n v p r =>
    show List.lookup _ (putF "rank" r (putF "parent" p (putF "value" v (putF "name" n [])))) = _
    rw [fs_skip (by decide +kernel)]
    exact fs_get
  | move n p r =>
    show List.lookup _ (putF "rank" r (putF "parent" p (putF "name" n []))) = _
    rw [fs_skip (by decide +kernel)]
    exact fs_get
  | cut _ => cases h
  | lift _ => cases h
  | wrap n v p f l =>
    show List.lookup _ (putF "last" l (putF "first" f (putF "parent" p (putF "value" v (putF "name" n []))))) = _
    rw [fs_skip (by decide +kernel)]
    rw [fs_skip (by decide +kernel)]
    exact fs_get
  | rev p =>
    show List.lookup _ (putF "parent" p []) = _
    exact fs_get
  | setv _ _ => cases h
theorem Tx.noD_pr (T : Tx K mg) {d : DV} (h : d.under = true) : NoAttr K (He.ga K d.cls) "parent" := by
  cases d with
  | put _ _ _ _ => exact T.no_Put_parent
  | move _ _ _ => exact T.no_Move_parent
  | cut _ => cases h
  | lift _ => cases h
  | wrap _ _ _ _ _ => exact T.no_Wrap_parent
  | rev _ => exact T.no_Reverse_parent
  | setv _ _ => cases h
theorem fld_rk {d : DV} (h : (d.isPut || d.isMove) = true) : d.fs.lookup ("rank" : Str) = some d.rk := by
  cases d with
  | put n v p r =>
    show List.lookup _ (putF "rank" r (putF "parent" p (putF "value" v (putF "name" n [])))) = _
    exact fs_get
  | move n p r =>
    show List.lookup _ (putF "rank" r (putF "parent" p (putF "name" n []))) = _
    exact fs_get
  | cut _ => cases h
  | lift _ => cases h
  | wrap _ _ _ _ _ => cases h
  | rev _ => cases h
  | setv _ _ => cases h
theorem Tx.noD_rk (T : Tx K mg) {d : DV} (h : (d.isPut || d.isMove) = true) : NoAttr K (He.ga K d.cls) "rank" := by
  cases d with
  | put _ _ _ _ => exact T.no_Put_rank
  | move _ _ _ => exact T.no_Move_rank
  | cut _ => cases h
  | lift _ => cases h
  | wrap _ _ _ _ _ => cases h
  | rev _ => cases h
  | setv _ _ => cases h
theorem fld_fi {d : DV} (h : d.isWrap = true) : d.fs.lookup ("first" : Str) = some d.fi := by
  cases d with
  | put _ _ _ _ => cases h
  | move _ _ _ => cases h
  | cut _ => cases h
  | lift _ => cases h
  | wrap n v p f l =>
    show List.lookup _ (putF "last" l (putF "first" f (putF "parent" p (putF "value" v (putF "name" n []))))) = _
    rw [fs_skip (by decide +kernel)]
    exact fs_get
  | rev _ => cases h
  | setv _ _ => cases h
theorem Tx.noD_fi (T : Tx K mg) {d : DV} (h : d.isWrap = true) : NoAttr K (He.ga K d.cls) "first" := by
  cases d with
  | put _ _ _ _ => cases h
  | move _ _ _ => cases h
  | cut _ => cases h
  | lift _ => cases h
  | wrap _ _ _ _ _ => exact T.no_Wrap_first
  | rev _ => cases h
  | setv _ _ => cases h
theorem fld_la {d : DV} (h : d.isWrap = true) : d.fs.lookup ("last" : Str) = some d.la := by
  cases d with
  | put _ _ _ _ => cases h
  | move _ _ _ => cases h
  | cut _ => cases h
  | lift _ => cases h
  | wrap n v p f l =>
    show List.lookup _ (putF "last" l (putF "first" f (putF "parent" p (putF "value" v (putF "name" n []))))) = _
    exact fs_get
  | rev _ => cases h
  | setv _ _ => cases h
theorem Tx.noD_la (T : Tx K mg) {d : DV} (h : d.isWrap = true) : NoAttr K (He.ga K d.cls) "last" := by
  cases d with
  | put _ _ _ _ => cases h
  | move _ _ _ => cases h
  | cut _ => cases h
  | lift _ => cases h
  | wrap _ _ _ _ _ => exact T.no_Wrap_last
  | rev _ => cases h
  | setv _ _ => cases h
end
theorem fld_no_class_name {d : DV} : d.fs.lookup ("class_name" : Str) = none := by
  cases d with
  | put n v p r =>
    show List.lookup _ (putF "rank" r (putF "parent" p (putF "value" v (putF "name" n [])))) = _
    rw [fs_skip (by decide +kernel)]
    rw [fs_skip (by decide +kernel)]
    rw [fs_skip (by decide +kernel)]
    rw [fs_skip (by decide +kernel)]
    rfl
  | move n p r =>
    show List.lookup _ (putF "rank" r (putF "parent" p (putF "name" n []))) = _
    rw [fs_skip (by decide +kernel)]
    rw [fs_skip (by decide +kernel)]
    rw [fs_skip (by decide +kernel)]
    rfl
  | cut n =>
    show List.lookup _ (putF "name" n []) = _
    rw [fs_skip (by decide +kernel)]
    rfl
  | lift n =>
    show List.lookup _ (putF "name" n []) = _
    rw [fs_skip (by decide +kernel)]
    rfl
  | wrap n v p f l =>
    show List.lookup _ (putF "last" l (putF "first" f (putF "parent" p (putF "value" v (putF "name" n []))))) = _
    rw [fs_skip (by decide +kernel)]
    rw [fs_skip (by decide +kernel)]
    rw [fs_skip (by decide +kernel)]
    rw [fs_skip (by decide +kernel)]
    rw [fs_skip (by decide +kernel)]
    rfl
  | rev p =>
    show List.lookup _ (putF "parent" p []) = _
    rw [fs_skip (by decide +kernel)]
    rfl
  | setv n v =>
    show List.lookup _ (putF "value" v (putF "name" n [])) = _
    rw [fs_skip (by decide +kernel)]
    rw [fs_skip (by decide +kernel)]
    rfl
theorem fld_no_facts {d : DV} : d.fs.lookup ("facts" : Str) = none := by
  cases d with
  | put n v p r =>
    show List.lookup _ (putF "rank" r (putF "parent" p (putF "value" v (putF "name" n [])))) = _
    rw [fs_skip (by decide +kernel)]
    rw [fs_skip (by decide +kernel)]
    rw [fs_skip (by decide +kernel)]
    rw [fs_skip (by decide +kernel)]
    rfl
  | move n p r =>
    show List.lookup _ (putF "rank" r (putF "parent" p (putF "name" n []))) = _
    rw [fs_skip (by decide +kernel)]
    rw [fs_skip (by decide +kernel)]
    rw [fs_skip (by decide +kernel)]
    rfl
  | cut n =>
    show List.lookup _ (putF "name" n []) = _
    rw [fs_skip (by decide +kernel)]
    rfl
  | lift n =>
    show List.lookup _ (putF "name" n []) = _
    rw [fs_skip (by decide +kernel)]
    rfl
  | wrap n v p f l =>
    show List.lookup _ (putF "last" l (putF "first" f (putF "parent" p (putF "value" v (putF "name" n []))))) = _
    rw [fs_skip (by decide +kernel)]
    rw [fs_skip (by decide +kernel)]
    rw [fs_skip (by decide +kernel)]
    rw [fs_skip (by decide +kernel)]
    rw [fs_skip (by decide +kernel)]
    rfl
  | rev p =>
    show List.lookup _ (putF "parent" p []) = _
    rw [fs_skip (by decide +kernel)]
    rfl
  | setv n v =>
    show List.lookup _ (putF "value" v (putF "name" n [])) = _
    rw [fs_skip (by decide +kernel)]
    rw [fs_skip (by decide +kernel)]
    rfl
def spNew (K : PySem.W.Frag) (c : Str) : Sp := fun vs H Q _ => ∃ (x dx : Addr) (d : DV), vs = .ref x :: d.args ∧ d.cls = c ∧ H x = some (.ins (He.ga K c) dx []) ∧ ∀ H', Bt x H H' → H' x = some (.ins (He.ga K c) dx d.fs) → Q .non H'
def spWd (wd : Str) : Sp := fun vs H Q _ => ∃ x, vs = [x] ∧ Q (.str wd) H
def spFacts (K : PySem.W.Frag) (c : Str) : Sp := fun vs H Q _ => ∃ (a : Addr) (d : DV), vs = [.ref a] ∧ DeedAt K H a d ∧ d.cls = c ∧ ∀ t, H t = none → Q (.ref t) (upd H t (.tup d.args))
theorem new_ex {H : Hp} {x dx : Addr} {o u : HO} (hx : H x = none) (hd : H dx = none) : Ex H (upd (upd H dx u) x o) := fun b ob e => by
  rw [upd_ne (ne_of_none e hx), upd_ne (ne_of_none e hd)]
  exact e
/-! ## flat fields -/
def plainV : V → Bool
  | .non => true
  | .int _ => true
  | .str s => PyData.strOk s
  | _ => false
def vPD : V → PyData
  | .non => .none
  | .int i => .int i
  | .str s => .str s
  | _ => .none
theorem plain_dp {K : PySem.W.Frag} {H : Hp} : ∀ {v : V}, plainV v = true → Dp K H v (vPD v)
  | .non, _ => .non
  | .int i, _ => .int i
  | .str s, _ => .str s
theorem plain_dpA {K : PySem.W.Frag} {H : Hp} : ∀ {vs : List V}, vs.all plainV = true → DpAll K H vs (vs.map vPD)
  | [], _ => .nil
  | v :: vs, h => by
    rw [List.all_cons, Bool.and_eq_true] at h
    exact .cons (plain_dp h.1) (plain_dpA h.2)
theorem plain_lay : ∀ {v : V}, plainV v = true → (vPD v).canLay0 = true ∧ (vPD v).depth = 0
  | .non, _ => ⟨by simp [vPD, PyData.canLay0], by simp [vPD, PyData.depth]⟩
  | .int i, _ => ⟨by simp [vPD, PyData.canLay0], by simp [vPD, PyData.depth]⟩
  | .str s, h => ⟨by simp only [vPD, PyData.canLay0]; exact h, by simp [vPD, PyData.depth]⟩
theorem plain_layA : ∀ {vs : List V}, vs.all plainV = true → PyData.canLayAll0 (vs.map vPD) = true ∧ PyData.depthAll (vs.map vPD) = 0
  | [], _ => ⟨by simp [PyData.canLayAll0], by simp [PyData.depthAll]⟩
  | v :: vs, h => by
    rw [List.all_cons, Bool.and_eq_true] at h
    have a := plain_lay h.1
    have b := plain_layA h.2
    exact ⟨by rw [List.map_cons, PyData.canLayAll0, a.1, b.1]; rfl, by rw [List.map_cons, PyData.depthAll, a.2, b.2]; rfl⟩
theorem plain_shaped {vs : List V} (h : vs.all plainV = true) : SeqAt.shaped (.tuple (vs.map vPD)) = true := by
  have a := plain_layA h
  show (PyData.canLay0 _ && decide (PyData.depth _ ≤ 64)) = true
  rw [Bool.and_eq_true]
  exact ⟨by simp only [PyData.canLay0]; exact a.1, decide_eq_true (by simp only [PyData.depth]; rw [a.2]; omega)⟩
theorem plain_eqv {vs : List V} (h : vs.all plainV = true) : PyData.eqv (.tuple (vs.map vPD)) (.tuple (vs.map vPD)) = true :=
  SeqAt.eqv_refl _ (by simp only [PyData.canLay0]; exact (plain_layA h).1)
def EqR (K : PySem.W.Frag) (c : Str) (a b : Addr) (H : Hp) : Prop := ∃ d : DV, DeedAt K H a d ∧ DeedAt K H b d ∧ d.cls = c ∧ d.args.all plainV = true
section
variable {P : Program} {w : World} {K : PySem.W.Frag} {mg : Str → Option Value} {base : Heap}

theorem ok_Put_init (T : Tx K mg) : KFn P w K mg base "Put" (He.ga K "Put") CX0 1 ["self", "name", "value", "parent", "rank"] (spNew K "Put") := by
  obtain ⟨fd, F⟩ := T.d_Put_init_
  refine ⟨_, fd, T.g_Put, T.mk_Put, F.bindsN fun _ _ _ _ _ _ us hl => match us, hl with | [_, _, _, _, _], _ => rfl, ok0 F sc_Put_init_ (fun vs H Q E h => ?_) fun cdv A outer s H vs Q E hr h => ?_⟩
  · obtain ⟨x, dx, d, rfl, hc, _⟩ := h
    cases d with
      | put _ _ _ _ => rfl
      | move _ _ _ => exact absurd (show ("Move" : Str) = "Put" from hc) (by decide +kernel)
      | cut _ => exact absurd (show ("Cut" : Str) = "Put" from hc) (by decide +kernel)
      | lift _ => exact absurd (show ("Lift" : Str) = "Put" from hc) (by decide +kernel)
      | wrap _ _ _ _ _ => exact absurd (show ("Wrap" : Str) = "Put" from hc) (by decide +kernel)
      | rev _ => exact absurd (show ("Reverse" : Str) = "Put" from hc) (by decide +kernel)
      | setv _ _ => exact absurd (show ("SetValue" : Str) = "Put" from hc) (by decide +kernel)
  · obtain ⟨x, dx, d, rfl, hc, hx, q⟩ := h
    cases d with
      | put n v p r =>
        refine ⟨_, pss_cons (ps_fld (pv 0) (pv 1) rfl) (pss_cons (ps_fld (pv 0) (pv 2) rfl) (pss_cons (ps_fld (pv 0) (pv 3) rfl) (pss_one (ps_fld (pv 0) (pv 4) rfl)))), ?_⟩
        refine ⟨_, rfl, _, rfl, x, He.ga K "Put", dx, _, rfl, hx, T.cl_Put, T.no_Put_name, (by first | decide | exact Nat.lt_of_le_of_lt (Nat.zero_le _) (by decide)), ?_⟩
        refine ⟨_, rfl, _, rfl, x, He.ga K "Put", dx, _, rfl, upd_same, T.cl_Put, T.no_Put_value, (by first | decide | exact Nat.lt_of_le_of_lt (fs_few (Nat.le_refl 0)) (by decide)), ?_⟩
        refine ⟨_, rfl, _, rfl, x, He.ga K "Put", dx, _, rfl, upd_same, T.cl_Put, T.no_Put_parent, (by first | decide | exact Nat.lt_of_le_of_lt (fs_few (fs_few (Nat.le_refl 0))) (by decide)), ?_⟩
        refine ⟨_, rfl, _, rfl, x, He.ga K "Put", dx, _, rfl, upd_same, T.cl_Put, T.no_Put_rank, (by first | decide | exact Nat.lt_of_le_of_lt (fs_few (fs_few (fs_few (Nat.le_refl 0)))) (by decide)), ?_⟩
        exact q _ ((((Bt.refl).at_).at_).at_).at_ upd_same
      | move _ _ _ => exact absurd (show ("Move" : Str) = "Put" from hc) (by decide +kernel)
      | cut _ => exact absurd (show ("Cut" : Str) = "Put" from hc) (by decide +kernel)
      | lift _ => exact absurd (show ("Lift" : Str) = "Put" from hc) (by decide +kernel)
      | wrap _ _ _ _ _ => exact absurd (show ("Wrap" : Str) = "Put" from hc) (by decide +kernel)
      | rev _ => exact absurd (show ("Reverse" : Str) = "Put" from hc) (by decide +kernel)
      | setv _ _ => exact absurd (show ("SetValue" : Str) = "Put" from hc) (by decide +kernel)
theorem ok_Put_class_name (T : Tx K mg) : MFn P w K mg base (He.ga K "Put") "class_name" CX0 1 ["self"] (spWd "put") := by
  obtain ⟨fd, F⟩ := T.d_Put_class_name
  refine mfn T.me_Put_class_name F (F.bindsN fun _ _ _ _ _ _ us hl => match us, hl with | [_], _ => rfl) (ok0 F sc_Put_class_name (fun vs H Q E h => ?_) fun cdv A outer s H vs Q E hr h => ?_)
  · obtain ⟨x, rfl, _⟩ := h; rfl
  · obtain ⟨x, rfl, q⟩ := h
    exact ⟨_, pss_one (ps_ret pe_str), q⟩
theorem ok_Put_facts (T : Tx K mg) : MFn P w K mg base (He.ga K "Put") "facts" CX0 1 ["self"] (spFacts K "Put") := by
  obtain ⟨fd, F⟩ := T.d_Put_facts
  refine mfn T.me_Put_facts F (F.bindsN fun _ _ _ _ _ _ us hl => match us, hl with | [_], _ => rfl) (ok0 F sc_Put_facts (fun vs H Q E h => ?_) fun cdv A outer s H vs Q E hr h => ?_)
  · obtain ⟨a, d, rfl, _⟩ := h; rfl
  · obtain ⟨a, d, rfl, ⟨dx, h⟩, hc, q⟩ := h
    cases d with
      | put n v p r =>
        have h : H a = some (.ins (He.ga K "Put") dx (putF "rank" r (putF "parent" p (putF "value" v (putF "name" n []))))) := h
        refine ⟨_, pss_one (ps_ret (pe_tup (pa_cons (pe_fld (pv 0) rfl) (pa_cons (pe_fld (pv 0) rfl) (pa_cons (pe_fld (pv 0) rfl) (pa_cons (pe_fld (pv 0) rfl) pa_nil)))))), ?_⟩
        exact ⟨_, rfl, a, _, dx, _, _, rfl, h, T.cl_Put, T.no_Put_name, (by rw [fs_skip (by decide +kernel)]; rw [fs_skip (by decide +kernel)]; rw [fs_skip (by decide +kernel)]; exact fs_get), _, rfl, a, _, dx, _, _, rfl, h, T.cl_Put, T.no_Put_value, (by rw [fs_skip (by decide +kernel)]; rw [fs_skip (by decide +kernel)]; exact fs_get), _, rfl, a, _, dx, _, _, rfl, h, T.cl_Put, T.no_Put_parent, (by rw [fs_skip (by decide +kernel)]; exact fs_get), _, rfl, a, _, dx, _, _, rfl, h, T.cl_Put, T.no_Put_rank, (by exact fs_get), (by show 4 ≤ sizeLine; decide), q⟩
      | move _ _ _ => exact absurd (show ("Move" : Str) = "Put" from hc) (by decide +kernel)
      | cut _ => exact absurd (show ("Cut" : Str) = "Put" from hc) (by decide +kernel)
      | lift _ => exact absurd (show ("Lift" : Str) = "Put" from hc) (by decide +kernel)
      | wrap _ _ _ _ _ => exact absurd (show ("Wrap" : Str) = "Put" from hc) (by decide +kernel)
      | rev _ => exact absurd (show ("Reverse" : Str) = "Put" from hc) (by decide +kernel)
      | setv _ _ => exact absurd (show ("SetValue" : Str) = "Put" from hc) (by decide +kernel)
theorem ok_Put_eq (T : Tx K mg) : MFn P w K mg base (He.ga K "Put") "__eq__" CX0 2 ["self", "other"] (spEq (EqR K "Put")) := by
  obtain ⟨fd, F⟩ := T.d_Put_eq_
  refine mfn T.me_Put_eq_ F (F.bindsN fun _ _ _ _ _ _ us hl => match us, hl with | [_, _], _ => rfl) (ok0 F sc_Put_eq_ (fun vs H Q E h => ?_) fun cdv A outer s H vs Q E hr h => ?_)
  · obtain ⟨a, b, rfl, _⟩ := h; rfl
  · obtain ⟨a, b, rfl, ⟨d, ha, hb, hc, hp⟩, q⟩ := h
    have tb := tyD T hb
    have kb := T.kD_Thing d
    obtain ⟨dx, ha⟩ := ha
    obtain ⟨dy, hb⟩ := hb
    have fa := fld_no_class_name (d := d)
    have ff := fld_no_facts (d := d)
    rw [hc] at ha hb tb kb
    refine ⟨_, pss_cons (ps_if (PW.pt (pw_or (pt_not (pt_val (pe_callB call_isi rfl T.z_isinstance b_isinstance (pa_cons (pv 1) (pa_cons (pe_glob (v := .ref (He.ga K "Thing")) rfl T.g_Thing rfl) pa_nil))))) (pw_or1 (pt_cmpR op_ne (pe_m0 T.cl_Put (ok_Put_class_name T) hr pass0 (pv 0)) (pe_m0 T.cl_Put (ok_Put_class_name T) hr pass0 (pv 1)) (nomark _))))) (pss_one (ps_ret pe_bl)) pss_nil)
      (pss_one (ps_ret (pe_cmpR (op_eqD hr.units) (pe_m0 T.cl_Put (ok_Put_facts T) hr pass0 (pv 0)) (pe_m0 T.cl_Put (ok_Put_facts T) hr pass0 (pv 1)) (nomark _)))), ?_⟩
    refine ⟨_, rfl, _, _, _, _, _, rfl, .own _, tb, kb, _, rfl, iteF ?_⟩
    refine ⟨_, rfl, a, dx, _, rfl, ha, fa, _, rfl, _, rfl, b, dy, _, rfl, hb, fa, _, rfl, rfl, _, rfl, ?_⟩
    refine iteB (c := false) (by decide +kernel) (iteF ?_)
    refine ⟨_, rfl, a, dx, _, rfl, ha, ff, a, d, rfl, ⟨dx, by rw [hc]; exact ha⟩, hc, fun t ht => ?_⟩
    have hb2 : upd H t (.tup d.args) b = some (.ins (He.ga K "Put") dy d.fs) := by rw [upd_ne (ne_of_none hb ht)]; exact hb
    refine ⟨_, rfl, b, dy, _, rfl, hb2, ff, b, d, rfl, ⟨dy, by rw [hc]; exact hb2⟩, hc, fun u hu => ?_⟩
    refine ⟨.tuple (d.args.map vPD), .tuple (d.args.map vPD), .tup (SqT.of (by rw [upd_ne (ne_of_none (H := upd H t (.tup d.args)) upd_same hu)]; exact upd_same)) (plain_dpA hp), .tup (SqT.of upd_same) (plain_dpA hp), plain_shaped hp, plain_shaped hp, ?_⟩
    rw [plain_eqv hp]
    exact q _ ((Ex.new ht).trans (Ex.new hu))
theorem ok_Move_init (T : Tx K mg) : KFn P w K mg base "Move" (He.ga K "Move") CX0 1 ["self", "name", "parent", "rank"] (spNew K "Move") := by
  obtain ⟨fd, F⟩ := T.d_Move_init_
  refine ⟨_, fd, T.g_Move, T.mk_Move, F.bindsN fun _ _ _ _ _ _ us hl => match us, hl with | [_, _, _, _], _ => rfl, ok0 F sc_Move_init_ (fun vs H Q E h => ?_) fun cdv A outer s H vs Q E hr h => ?_⟩
  · obtain ⟨x, dx, d, rfl, hc, _⟩ := h
    cases d with
      | move _ _ _ => rfl
      | put _ _ _ _ => exact absurd (show ("Put" : Str) = "Move" from hc) (by decide +kernel)
      | cut _ => exact absurd (show ("Cut" : Str) = "Move" from hc) (by decide +kernel)
      | lift _ => exact absurd (show ("Lift" : Str) = "Move" from hc) (by decide +kernel)
      | wrap _ _ _ _ _ => exact absurd (show ("Wrap" : Str) = "Move" from hc) (by decide +kernel)
      | rev _ => exact absurd (show ("Reverse" : Str) = "Move" from hc) (by decide +kernel)
      | setv _ _ => exact absurd (show ("SetValue" : Str) = "Move" from hc) (by decide +kernel)
  · obtain ⟨x, dx, d, rfl, hc, hx, q⟩ := h
    cases d with
      | move n p r =>
        refine ⟨_, pss_cons (ps_fld (pv 0) (pv 1) rfl) (pss_cons (ps_fld (pv 0) (pv 2) rfl) (pss_one (ps_fld (pv 0) (pv 3) rfl))), ?_⟩
        refine ⟨_, rfl, _, rfl, x, He.ga K "Move", dx, _, rfl, hx, T.cl_Move, T.no_Move_name, (by first | decide | exact Nat.lt_of_le_of_lt (Nat.zero_le _) (by decide)), ?_⟩
        refine ⟨_, rfl, _, rfl, x, He.ga K "Move", dx, _, rfl, upd_same, T.cl_Move, T.no_Move_parent, (by first | decide | exact Nat.lt_of_le_of_lt (fs_few (Nat.le_refl 0)) (by decide)), ?_⟩
        refine ⟨_, rfl, _, rfl, x, He.ga K "Move", dx, _, rfl, upd_same, T.cl_Move, T.no_Move_rank, (by first | decide | exact Nat.lt_of_le_of_lt (fs_few (fs_few (Nat.le_refl 0))) (by decide)), ?_⟩
        exact q _ (((Bt.refl).at_).at_).at_ upd_same
      | put _ _ _ _ => exact absurd (show ("Put" : Str) = "Move" from hc) (by decide +kernel)
      | cut _ => exact absurd (show ("Cut" : Str) = "Move" from hc) (by decide +kernel)
      | lift _ => exact absurd (show ("Lift" : Str) = "Move" from hc) (by decide +kernel)
      | wrap _ _ _ _ _ => exact absurd (show ("Wrap" : Str) = "Move" from hc) (by decide +kernel)
      | rev _ => exact absurd (show ("Reverse" : Str) = "Move" from hc) (by decide +kernel)
      | setv _ _ => exact absurd (show ("SetValue" : Str) = "Move" from hc) (by decide +kernel)
theorem ok_Move_class_name (T : Tx K mg) : MFn P w K mg base (He.ga K "Move") "class_name" CX0 1 ["self"] (spWd "move") := by
  obtain ⟨fd, F⟩ := T.d_Move_class_name
  refine mfn T.me_Move_class_name F (F.bindsN fun _ _ _ _ _ _ us hl => match us, hl with | [_], _ => rfl) (ok0 F sc_Move_class_name (fun vs H Q E h => ?_) fun cdv A outer s H vs Q E hr h => ?_)
  · obtain ⟨x, rfl, _⟩ := h; rfl
  · obtain ⟨x, rfl, q⟩ := h
    exact ⟨_, pss_one (ps_ret pe_str), q⟩
theorem ok_Move_facts (T : Tx K mg) : MFn P w K mg base (He.ga K "Move") "facts" CX0 1 ["self"] (spFacts K "Move") := by
  obtain ⟨fd, F⟩ := T.d_Move_facts
  refine mfn T.me_Move_facts F (F.bindsN fun _ _ _ _ _ _ us hl => match us, hl with | [_], _ => rfl) (ok0 F sc_Move_facts (fun vs H Q E h => ?_) fun cdv A outer s H vs Q E hr h => ?_)
  · obtain ⟨a, d, rfl, _⟩ := h; rfl
  · obtain ⟨a, d, rfl, ⟨dx, h⟩, hc, q⟩ := h
    cases d with
      | move n p r =>
        have h : H a = some (.ins (He.ga K "Move") dx (putF "rank" r (putF "parent" p (putF "name" n [])))) := h
        refine ⟨_, pss_one (ps_ret (pe_tup (pa_cons (pe_fld (pv 0) rfl) (pa_cons (pe_fld (pv 0) rfl) (pa_cons (pe_fld (pv 0) rfl) pa_nil))))), ?_⟩
        exact ⟨_, rfl, a, _, dx, _, _, rfl, h, T.cl_Move, T.no_Move_name, (by rw [fs_skip (by decide +kernel)]; rw [fs_skip (by decide +kernel)]; exact fs_get), _, rfl, a, _, dx, _, _, rfl, h, T.cl_Move, T.no_Move_parent, (by rw [fs_skip (by decide +kernel)]; exact fs_get), _, rfl, a, _, dx, _, _, rfl, h, T.cl_Move, T.no_Move_rank, (by exact fs_get), (by show 3 ≤ sizeLine; decide), q⟩
      | put _ _ _ _ => exact absurd (show ("Put" : Str) = "Move" from hc) (by decide +kernel)
      | cut _ => exact absurd (show ("Cut" : Str) = "Move" from hc) (by decide +kernel)
      | lift _ => exact absurd (show ("Lift" : Str) = "Move" from hc) (by decide +kernel)
      | wrap _ _ _ _ _ => exact absurd (show ("Wrap" : Str) = "Move" from hc) (by decide +kernel)
      | rev _ => exact absurd (show ("Reverse" : Str) = "Move" from hc) (by decide +kernel)
      | setv _ _ => exact absurd (show ("SetValue" : Str) = "Move" from hc) (by decide +kernel)
theorem ok_Move_eq (T : Tx K mg) : MFn P w K mg base (He.ga K "Move") "__eq__" CX0 2 ["self", "other"] (spEq (EqR K "Move")) := by
  obtain ⟨fd, F⟩ := T.d_Move_eq_
  refine mfn T.me_Move_eq_ F (F.bindsN fun _ _ _ _ _ _ us hl => match us, hl with | [_, _], _ => rfl) (ok0 F sc_Move_eq_ (fun vs H Q E h => ?_) fun cdv A outer s H vs Q E hr h => ?_)
  · obtain ⟨a, b, rfl, _⟩ := h; rfl
  · obtain ⟨a, b, rfl, ⟨d, ha, hb, hc, hp⟩, q⟩ := h
    have tb := tyD T hb
    have kb := T.kD_Thing d
    obtain ⟨dx, ha⟩ := ha
    obtain ⟨dy, hb⟩ := hb
    have fa := fld_no_class_name (d := d)
    have ff := fld_no_facts (d := d)
    rw [hc] at ha hb tb kb
    refine ⟨_, pss_cons (ps_if (PW.pt (pw_or (pt_not (pt_val (pe_callB call_isi rfl T.z_isinstance b_isinstance (pa_cons (pv 1) (pa_cons (pe_glob (v := .ref (He.ga K "Thing")) rfl T.g_Thing rfl) pa_nil))))) (pw_or1 (pt_cmpR op_ne (pe_m0 T.cl_Move (ok_Move_class_name T) hr pass0 (pv 0)) (pe_m0 T.cl_Move (ok_Move_class_name T) hr pass0 (pv 1)) (nomark _))))) (pss_one (ps_ret pe_bl)) pss_nil)
      (pss_one (ps_ret (pe_cmpR (op_eqD hr.units) (pe_m0 T.cl_Move (ok_Move_facts T) hr pass0 (pv 0)) (pe_m0 T.cl_Move (ok_Move_facts T) hr pass0 (pv 1)) (nomark _)))), ?_⟩
    refine ⟨_, rfl, _, _, _, _, _, rfl, .own _, tb, kb, _, rfl, iteF ?_⟩
    refine ⟨_, rfl, a, dx, _, rfl, ha, fa, _, rfl, _, rfl, b, dy, _, rfl, hb, fa, _, rfl, rfl, _, rfl, ?_⟩
    refine iteB (c := false) (by decide +kernel) (iteF ?_)
    refine ⟨_, rfl, a, dx, _, rfl, ha, ff, a, d, rfl, ⟨dx, by rw [hc]; exact ha⟩, hc, fun t ht => ?_⟩
    have hb2 : upd H t (.tup d.args) b = some (.ins (He.ga K "Move") dy d.fs) := by rw [upd_ne (ne_of_none hb ht)]; exact hb
    refine ⟨_, rfl, b, dy, _, rfl, hb2, ff, b, d, rfl, ⟨dy, by rw [hc]; exact hb2⟩, hc, fun u hu => ?_⟩
    refine ⟨.tuple (d.args.map vPD), .tuple (d.args.map vPD), .tup (SqT.of (by rw [upd_ne (ne_of_none (H := upd H t (.tup d.args)) upd_same hu)]; exact upd_same)) (plain_dpA hp), .tup (SqT.of upd_same) (plain_dpA hp), plain_shaped hp, plain_shaped hp, ?_⟩
    rw [plain_eqv hp]
    exact q _ ((Ex.new ht).trans (Ex.new hu))
theorem ok_Cut_init (T : Tx K mg) : KFn P w K mg base "Cut" (He.ga K "Cut") CX0 1 ["self", "name"] (spNew K "Cut") := by
  obtain ⟨fd, F⟩ := T.d_Cut_init_
  refine ⟨_, fd, T.g_Cut, T.mk_Cut, F.bindsN fun _ _ _ _ _ _ us hl => match us, hl with | [_, _], _ => rfl, ok0 F sc_Cut_init_ (fun vs H Q E h => ?_) fun cdv A outer s H vs Q E hr h => ?_⟩
  · obtain ⟨x, dx, d, rfl, hc, _⟩ := h
    cases d with
      | cut _ => rfl
      | put _ _ _ _ => exact absurd (show ("Put" : Str) = "Cut" from hc) (by decide +kernel)
      | move _ _ _ => exact absurd (show ("Move" : Str) = "Cut" from hc) (by decide +kernel)
      | lift _ => exact absurd (show ("Lift" : Str) = "Cut" from hc) (by decide +kernel)
      | wrap _ _ _ _ _ => exact absurd (show ("Wrap" : Str) = "Cut" from hc) (by decide +kernel)
      | rev _ => exact absurd (show ("Reverse" : Str) = "Cut" from hc) (by decide +kernel)
      | setv _ _ => exact absurd (show ("SetValue" : Str) = "Cut" from hc) (by decide +kernel)
  · obtain ⟨x, dx, d, rfl, hc, hx, q⟩ := h
    cases d with
      | cut n =>
        refine ⟨_, pss_one (ps_fld (pv 0) (pv 1) rfl), ?_⟩
        refine ⟨_, rfl, _, rfl, x, He.ga K "Cut", dx, _, rfl, hx, T.cl_Cut, T.no_Cut_name, (by first | decide | exact Nat.lt_of_le_of_lt (Nat.zero_le _) (by decide)), ?_⟩
        exact q _ (Bt.refl).at_ upd_same
      | put _ _ _ _ => exact absurd (show ("Put" : Str) = "Cut" from hc) (by decide +kernel)
      | move _ _ _ => exact absurd (show ("Move" : Str) = "Cut" from hc) (by decide +kernel)
      | lift _ => exact absurd (show ("Lift" : Str) = "Cut" from hc) (by decide +kernel)
      | wrap _ _ _ _ _ => exact absurd (show ("Wrap" : Str) = "Cut" from hc) (by decide +kernel)
      | rev _ => exact absurd (show ("Reverse" : Str) = "Cut" from hc) (by decide +kernel)
      | setv _ _ => exact absurd (show ("SetValue" : Str) = "Cut" from hc) (by decide +kernel)
theorem ok_Cut_class_name (T : Tx K mg) : MFn P w K mg base (He.ga K "Cut") "class_name" CX0 1 ["self"] (spWd "cut") := by
  obtain ⟨fd, F⟩ := T.d_Cut_class_name
  refine mfn T.me_Cut_class_name F (F.bindsN fun _ _ _ _ _ _ us hl => match us, hl with | [_], _ => rfl) (ok0 F sc_Cut_class_name (fun vs H Q E h => ?_) fun cdv A outer s H vs Q E hr h => ?_)
  · obtain ⟨x, rfl, _⟩ := h; rfl
  · obtain ⟨x, rfl, q⟩ := h
    exact ⟨_, pss_one (ps_ret pe_str), q⟩
theorem ok_Cut_facts (T : Tx K mg) : MFn P w K mg base (He.ga K "Cut") "facts" CX0 1 ["self"] (spFacts K "Cut") := by
  obtain ⟨fd, F⟩ := T.d_Cut_facts
  refine mfn T.me_Cut_facts F (F.bindsN fun _ _ _ _ _ _ us hl => match us, hl with | [_], _ => rfl) (ok0 F sc_Cut_facts (fun vs H Q E h => ?_) fun cdv A outer s H vs Q E hr h => ?_)
  · obtain ⟨a, d, rfl, _⟩ := h; rfl
  · obtain ⟨a, d, rfl, ⟨dx, h⟩, hc, q⟩ := h
    cases d with
      | cut n =>
        have h : H a = some (.ins (He.ga K "Cut") dx (putF "name" n [])) := h
        refine ⟨_, pss_one (ps_ret (pe_tup (pa_cons (pe_fld (pv 0) rfl) pa_nil))), ?_⟩
        exact ⟨_, rfl, a, _, dx, _, _, rfl, h, T.cl_Cut, T.no_Cut_name, (by exact fs_get), (by show 1 ≤ sizeLine; decide), q⟩
      | put _ _ _ _ => exact absurd (show ("Put" : Str) = "Cut" from hc) (by decide +kernel)
      | move _ _ _ => exact absurd (show ("Move" : Str) = "Cut" from hc) (by decide +kernel)
      | lift _ => exact absurd (show ("Lift" : Str) = "Cut" from hc) (by decide +kernel)
      | wrap _ _ _ _ _ => exact absurd (show ("Wrap" : Str) = "Cut" from hc) (by decide +kernel)
      | rev _ => exact absurd (show ("Reverse" : Str) = "Cut" from hc) (by decide +kernel)
      | setv _ _ => exact absurd (show ("SetValue" : Str) = "Cut" from hc) (by decide +kernel)
theorem ok_Cut_eq (T : Tx K mg) : MFn P w K mg base (He.ga K "Cut") "__eq__" CX0 2 ["self", "other"] (spEq (EqR K "Cut")) := by
  obtain ⟨fd, F⟩ := T.d_Cut_eq_
  refine mfn T.me_Cut_eq_ F (F.bindsN fun _ _ _ _ _ _ us hl => match us, hl with | [_, _], _ => rfl) (ok0 F sc_Cut_eq_ (fun vs H Q E h => ?_) fun cdv A outer s H vs Q E hr h => ?_)
  · obtain ⟨a, b, rfl, _⟩ := h; rfl
  · obtain ⟨a, b, rfl, ⟨d, ha, hb, hc, hp⟩, q⟩ := h
    have tb := tyD T hb
    have kb := T.kD_Thing d
    obtain ⟨dx, ha⟩ := ha
    obtain ⟨dy, hb⟩ := hb
    have fa := fld_no_class_name (d := d)
    have ff := fld_no_facts (d := d)
    rw [hc] at ha hb tb kb
    refine ⟨_, pss_cons (ps_if (PW.pt (pw_or (pt_not (pt_val (pe_callB call_isi rfl T.z_isinstance b_isinstance (pa_cons (pv 1) (pa_cons (pe_glob (v := .ref (He.ga K "Thing")) rfl T.g_Thing rfl) pa_nil))))) (pw_or1 (pt_cmpR op_ne (pe_m0 T.cl_Cut (ok_Cut_class_name T) hr pass0 (pv 0)) (pe_m0 T.cl_Cut (ok_Cut_class_name T) hr pass0 (pv 1)) (nomark _))))) (pss_one (ps_ret pe_bl)) pss_nil)
      (pss_one (ps_ret (pe_cmpR (op_eqD hr.units) (pe_m0 T.cl_Cut (ok_Cut_facts T) hr pass0 (pv 0)) (pe_m0 T.cl_Cut (ok_Cut_facts T) hr pass0 (pv 1)) (nomark _)))), ?_⟩
    refine ⟨_, rfl, _, _, _, _, _, rfl, .own _, tb, kb, _, rfl, iteF ?_⟩
    refine ⟨_, rfl, a, dx, _, rfl, ha, fa, _, rfl, _, rfl, b, dy, _, rfl, hb, fa, _, rfl, rfl, _, rfl, ?_⟩
    refine iteB (c := false) (by decide +kernel) (iteF ?_)
    refine ⟨_, rfl, a, dx, _, rfl, ha, ff, a, d, rfl, ⟨dx, by rw [hc]; exact ha⟩, hc, fun t ht => ?_⟩
    have hb2 : upd H t (.tup d.args) b = some (.ins (He.ga K "Cut") dy d.fs) := by rw [upd_ne (ne_of_none hb ht)]; exact hb
    refine ⟨_, rfl, b, dy, _, rfl, hb2, ff, b, d, rfl, ⟨dy, by rw [hc]; exact hb2⟩, hc, fun u hu => ?_⟩
    refine ⟨.tuple (d.args.map vPD), .tuple (d.args.map vPD), .tup (SqT.of (by rw [upd_ne (ne_of_none (H := upd H t (.tup d.args)) upd_same hu)]; exact upd_same)) (plain_dpA hp), .tup (SqT.of upd_same) (plain_dpA hp), plain_shaped hp, plain_shaped hp, ?_⟩
    rw [plain_eqv hp]
    exact q _ ((Ex.new ht).trans (Ex.new hu))
theorem ok_Lift_init (T : Tx K mg) : KFn P w K mg base "Lift" (He.ga K "Lift") CX0 1 ["self", "name"] (spNew K "Lift") := by
  obtain ⟨fd, F⟩ := T.d_Lift_init_
  refine ⟨_, fd, T.g_Lift, T.mk_Lift, F.bindsN fun _ _ _ _ _ _ us hl => match us, hl with | [_, _], _ => rfl, ok0 F sc_Lift_init_ (fun vs H Q E h => ?_) fun cdv A outer s H vs Q E hr h => ?_⟩
  · obtain ⟨x, dx, d, rfl, hc, _⟩ := h
    cases d with
      | lift _ => rfl
      | put _ _ _ _ => exact absurd (show ("Put" : Str) = "Lift" from hc) (by decide +kernel)
      | move _ _ _ => exact absurd (show ("Move" : Str) = "Lift" from hc) (by decide +kernel)
      | cut _ => exact absurd (show ("Cut" : Str) = "Lift" from hc) (by decide +kernel)
      | wrap _ _ _ _ _ => exact absurd (show ("Wrap" : Str) = "Lift" from hc) (by decide +kernel)
      | rev _ => exact absurd (show ("Reverse" : Str) = "Lift" from hc) (by decide +kernel)
      | setv _ _ => exact absurd (show ("SetValue" : Str) = "Lift" from hc) (by decide +kernel)
  · obtain ⟨x, dx, d, rfl, hc, hx, q⟩ := h
    cases d with
      | lift n =>
        refine ⟨_, pss_one (ps_fld (pv 0) (pv 1) rfl), ?_⟩
        refine ⟨_, rfl, _, rfl, x, He.ga K "Lift", dx, _, rfl, hx, T.cl_Lift, T.no_Lift_name, (by first | decide | exact Nat.lt_of_le_of_lt (Nat.zero_le _) (by decide)), ?_⟩
        exact q _ (Bt.refl).at_ upd_same
      | put _ _ _ _ => exact absurd (show ("Put" : Str) = "Lift" from hc) (by decide +kernel)
      | move _ _ _ => exact absurd (show ("Move" : Str) = "Lift" from hc) (by decide +kernel)
      | cut _ => exact absurd (show ("Cut" : Str) = "Lift" from hc) (by decide +kernel)
      | wrap _ _ _ _ _ => exact absurd (show ("Wrap" : Str) = "Lift" from hc) (by decide +kernel)
      | rev _ => exact absurd (show ("Reverse" : Str) = "Lift" from hc) (by decide +kernel)
      | setv _ _ => exact absurd (show ("SetValue" : Str) = "Lift" from hc) (by decide +kernel)
theorem ok_Lift_class_name (T : Tx K mg) : MFn P w K mg base (He.ga K "Lift") "class_name" CX0 1 ["self"] (spWd "lift") := by
  obtain ⟨fd, F⟩ := T.d_Lift_class_name
  refine mfn T.me_Lift_class_name F (F.bindsN fun _ _ _ _ _ _ us hl => match us, hl with | [_], _ => rfl) (ok0 F sc_Lift_class_name (fun vs H Q E h => ?_) fun cdv A outer s H vs Q E hr h => ?_)
  · obtain ⟨x, rfl, _⟩ := h; rfl
  · obtain ⟨x, rfl, q⟩ := h
    exact ⟨_, pss_one (ps_ret pe_str), q⟩
theorem ok_Lift_facts (T : Tx K mg) : MFn P w K mg base (He.ga K "Lift") "facts" CX0 1 ["self"] (spFacts K "Lift") := by
  obtain ⟨fd, F⟩ := T.d_Lift_facts
  refine mfn T.me_Lift_facts F (F.bindsN fun _ _ _ _ _ _ us hl => match us, hl with | [_], _ => rfl) (ok0 F sc_Lift_facts (fun vs H Q E h => ?_) fun cdv A outer s H vs Q E hr h => ?_)
  · obtain ⟨a, d, rfl, _⟩ := h; rfl
  · obtain ⟨a, d, rfl, ⟨dx, h⟩, hc, q⟩ := h
    cases d with
      | lift n =>
        have h : H a = some (.ins (He.ga K "Lift") dx (putF "name" n [])) := h
        refine ⟨_, pss_one (ps_ret (pe_tup (pa_cons (pe_fld (pv 0) rfl) pa_nil))), ?_⟩
        exact ⟨_, rfl, a, _, dx, _, _, rfl, h, T.cl_Lift, T.no_Lift_name, (by exact fs_get), (by show 1 ≤ sizeLine; decide), q⟩
      | put _ _ _ _ => exact absurd (show ("Put" : Str) = "Lift" from hc) (by decide +kernel)
      | move _ _ _ => exact absurd (show ("Move" : Str) = "Lift" from hc) (by decide +kernel)
      | cut _ => exact absurd (show ("Cut" : Str) = "Lift" from hc) (by decide +kernel)
      | wrap _ _ _ _ _ => exact absurd (show ("Wrap" : Str) = "Lift" from hc) (by decide +kernel)
      | rev _ => exact absurd (show ("Reverse" : Str) = "Lift" from hc) (by decide +kernel)
      | setv _ _ => exact absurd (show ("SetValue" : Str) = "Lift" from hc) (by decide +kernel)
theorem ok_Lift_eq (T : Tx K mg) : MFn P w K mg base (He.ga K "Lift") "__eq__" CX0 2 ["self", "other"] (spEq (EqR K "Lift")) := by
  obtain ⟨fd, F⟩ := T.d_Lift_eq_
  refine mfn T.me_Lift_eq_ F (F.bindsN fun _ _ _ _ _ _ us hl => match us, hl with | [_, _], _ => rfl) (ok0 F sc_Lift_eq_ (fun vs H Q E h => ?_) fun cdv A outer s H vs Q E hr h => ?_)
  · obtain ⟨a, b, rfl, _⟩ := h; rfl
  · obtain ⟨a, b, rfl, ⟨d, ha, hb, hc, hp⟩, q⟩ := h
    have tb := tyD T hb
    have kb := T.kD_Thing d
    obtain ⟨dx, ha⟩ := ha
    obtain ⟨dy, hb⟩ := hb
    have fa := fld_no_class_name (d := d)
    have ff := fld_no_facts (d := d)
    rw [hc] at ha hb tb kb
    refine ⟨_, pss_cons (ps_if (PW.pt (pw_or (pt_not (pt_val (pe_callB call_isi rfl T.z_isinstance b_isinstance (pa_cons (pv 1) (pa_cons (pe_glob (v := .ref (He.ga K "Thing")) rfl T.g_Thing rfl) pa_nil))))) (pw_or1 (pt_cmpR op_ne (pe_m0 T.cl_Lift (ok_Lift_class_name T) hr pass0 (pv 0)) (pe_m0 T.cl_Lift (ok_Lift_class_name T) hr pass0 (pv 1)) (nomark _))))) (pss_one (ps_ret pe_bl)) pss_nil)
      (pss_one (ps_ret (pe_cmpR (op_eqD hr.units) (pe_m0 T.cl_Lift (ok_Lift_facts T) hr pass0 (pv 0)) (pe_m0 T.cl_Lift (ok_Lift_facts T) hr pass0 (pv 1)) (nomark _)))), ?_⟩
    refine ⟨_, rfl, _, _, _, _, _, rfl, .own _, tb, kb, _, rfl, iteF ?_⟩
    refine ⟨_, rfl, a, dx, _, rfl, ha, fa, _, rfl, _, rfl, b, dy, _, rfl, hb, fa, _, rfl, rfl, _, rfl, ?_⟩
    refine iteB (c := false) (by decide +kernel) (iteF ?_)
    refine ⟨_, rfl, a, dx, _, rfl, ha, ff, a, d, rfl, ⟨dx, by rw [hc]; exact ha⟩, hc, fun t ht => ?_⟩
    have hb2 : upd H t (.tup d.args) b = some (.ins (He.ga K "Lift") dy d.fs) := by rw [upd_ne (ne_of_none hb ht)]; exact hb
    refine ⟨_, rfl, b, dy, _, rfl, hb2, ff, b, d, rfl, ⟨dy, by rw [hc]; exact hb2⟩, hc, fun u hu => ?_⟩
    refine ⟨.tuple (d.args.map vPD), .tuple (d.args.map vPD), .tup (SqT.of (by rw [upd_ne (ne_of_none (H := upd H t (.tup d.args)) upd_same hu)]; exact upd_same)) (plain_dpA hp), .tup (SqT.of upd_same) (plain_dpA hp), plain_shaped hp, plain_shaped hp, ?_⟩
    rw [plain_eqv hp]
    exact q _ ((Ex.new ht).trans (Ex.new hu))
theorem ok_Wrap_init (T : Tx K mg) : KFn P w K mg base "Wrap" (He.ga K "Wrap") CX0 1 ["self", "name", "value", "parent", "first", "last"] (spNew K "Wrap") := by
  obtain ⟨fd, F⟩ := T.d_Wrap_init_
  refine ⟨_, fd, T.g_Wrap, T.mk_Wrap, F.bindsN fun _ _ _ _ _ _ us hl => match us, hl with | [_, _, _, _, _, _], _ => rfl, ok0 F sc_Wrap_init_ (fun vs H Q E h => ?_) fun cdv A outer s H vs Q E hr h => ?_⟩
  · obtain ⟨x, dx, d, rfl, hc, _⟩ := h
    cases d with
      | wrap _ _ _ _ _ => rfl
      | put _ _ _ _ => exact absurd (show ("Put" : Str) = "Wrap" from hc) (by decide +kernel)
      | move _ _ _ => exact absurd (show ("Move" : Str) = "Wrap" from hc) (by decide +kernel)
      | cut _ => exact absurd (show ("Cut" : Str) = "Wrap" from hc) (by decide +kernel)
      | lift _ => exact absurd (show ("Lift" : Str) = "Wrap" from hc) (by decide +kernel)
      | rev _ => exact absurd (show ("Reverse" : Str) = "Wrap" from hc) (by decide +kernel)
      | setv _ _ => exact absurd (show ("SetValue" : Str) = "Wrap" from hc) (by decide +kernel)
  · obtain ⟨x, dx, d, rfl, hc, hx, q⟩ := h
    cases d with
      | wrap n v p f l =>
        refine ⟨_, pss_cons (ps_fld (pv 0) (pv 1) rfl) (pss_cons (ps_fld (pv 0) (pv 2) rfl) (pss_cons (ps_fld (pv 0) (pv 3) rfl) (pss_cons (ps_fld (pv 0) (pv 4) rfl) (pss_one (ps_fld (pv 0) (pv 5) rfl))))), ?_⟩
        refine ⟨_, rfl, _, rfl, x, He.ga K "Wrap", dx, _, rfl, hx, T.cl_Wrap, T.no_Wrap_name, (by first | decide | exact Nat.lt_of_le_of_lt (Nat.zero_le _) (by decide)), ?_⟩
        refine ⟨_, rfl, _, rfl, x, He.ga K "Wrap", dx, _, rfl, upd_same, T.cl_Wrap, T.no_Wrap_value, (by first | decide | exact Nat.lt_of_le_of_lt (fs_few (Nat.le_refl 0)) (by decide)), ?_⟩
        refine ⟨_, rfl, _, rfl, x, He.ga K "Wrap", dx, _, rfl, upd_same, T.cl_Wrap, T.no_Wrap_parent, (by first | decide | exact Nat.lt_of_le_of_lt (fs_few (fs_few (Nat.le_refl 0))) (by decide)), ?_⟩
        refine ⟨_, rfl, _, rfl, x, He.ga K "Wrap", dx, _, rfl, upd_same, T.cl_Wrap, T.no_Wrap_first, (by first | decide | exact Nat.lt_of_le_of_lt (fs_few (fs_few (fs_few (Nat.le_refl 0)))) (by decide)), ?_⟩
        refine ⟨_, rfl, _, rfl, x, He.ga K "Wrap", dx, _, rfl, upd_same, T.cl_Wrap, T.no_Wrap_last, (by first | decide | exact Nat.lt_of_le_of_lt (fs_few (fs_few (fs_few (fs_few (Nat.le_refl 0))))) (by decide)), ?_⟩
        exact q _ (((((Bt.refl).at_).at_).at_).at_).at_ upd_same
      | put _ _ _ _ => exact absurd (show ("Put" : Str) = "Wrap" from hc) (by decide +kernel)
      | move _ _ _ => exact absurd (show ("Move" : Str) = "Wrap" from hc) (by decide +kernel)
      | cut _ => exact absurd (show ("Cut" : Str) = "Wrap" from hc) (by decide +kernel)
      | lift _ => exact absurd (show ("Lift" : Str) = "Wrap" from hc) (by decide +kernel)
      | rev _ => exact absurd (show ("Reverse" : Str) = "Wrap" from hc) (by decide +kernel)
      | setv _ _ => exact absurd (show ("SetValue" : Str) = "Wrap" from hc) (by decide +kernel)
theorem ok_Wrap_class_name (T : Tx K mg) : MFn P w K mg base (He.ga K "Wrap") "class_name" CX0 1 ["self"] (spWd "wrap") := by
  obtain ⟨fd, F⟩ := T.d_Wrap_class_name
  refine mfn T.me_Wrap_class_name F (F.bindsN fun _ _ _ _ _ _ us hl => match us, hl with | [_], _ => rfl) (ok0 F sc_Wrap_class_name (fun vs H Q E h => ?_) fun cdv A outer s H vs Q E hr h => ?_)
  · obtain ⟨x, rfl, _⟩ := h; rfl
  · obtain ⟨x, rfl, q⟩ := h
    exact ⟨_, pss_one (ps_ret pe_str), q⟩
theorem ok_Wrap_facts (T : Tx K mg) : MFn P w K mg base (He.ga K "Wrap") "facts" CX0 1 ["self"] (spFacts K "Wrap") := by
  obtain ⟨fd, F⟩ := T.d_Wrap_facts
  refine mfn T.me_Wrap_facts F (F.bindsN fun _ _ _ _ _ _ us hl => match us, hl with | [_], _ => rfl) (ok0 F sc_Wrap_facts (fun vs H Q E h => ?_) fun cdv A outer s H vs Q E hr h => ?_)
  · obtain ⟨a, d, rfl, _⟩ := h; rfl
  · obtain ⟨a, d, rfl, ⟨dx, h⟩, hc, q⟩ := h
    cases d with
      | wrap n v p f l =>
        have h : H a = some (.ins (He.ga K "Wrap") dx (putF "last" l (putF "first" f (putF "parent" p (putF "value" v (putF "name" n [])))))) := h
        refine ⟨_, pss_one (ps_ret (pe_tup (pa_cons (pe_fld (pv 0) rfl) (pa_cons (pe_fld (pv 0) rfl) (pa_cons (pe_fld (pv 0) rfl) (pa_cons (pe_fld (pv 0) rfl) (pa_cons (pe_fld (pv 0) rfl) pa_nil))))))), ?_⟩
        exact ⟨_, rfl, a, _, dx, _, _, rfl, h, T.cl_Wrap, T.no_Wrap_name, (by rw [fs_skip (by decide +kernel)]; rw [fs_skip (by decide +kernel)]; rw [fs_skip (by decide +kernel)]; rw [fs_skip (by decide +kernel)]; exact fs_get), _, rfl, a, _, dx, _, _, rfl, h, T.cl_Wrap, T.no_Wrap_value, (by rw [fs_skip (by decide +kernel)]; rw [fs_skip (by decide +kernel)]; rw [fs_skip (by decide +kernel)]; exact fs_get), _, rfl, a, _, dx, _, _, rfl, h, T.cl_Wrap, T.no_Wrap_parent, (by rw [fs_skip (by decide +kernel)]; rw [fs_skip (by decide +kernel)]; exact fs_get), _, rfl, a, _, dx, _, _, rfl, h, T.cl_Wrap, T.no_Wrap_first, (by rw [fs_skip (by decide +kernel)]; exact fs_get), _, rfl, a, _, dx, _, _, rfl, h, T.cl_Wrap, T.no_Wrap_last, (by exact fs_get), (by show 5 ≤ sizeLine; decide), q⟩
      | put _ _ _ _ => exact absurd (show ("Put" : Str) = "Wrap" from hc) (by decide +kernel)
      | move _ _ _ => exact absurd (show ("Move" : Str) = "Wrap" from hc) (by decide +kernel)
      | cut _ => exact absurd (show ("Cut" : Str) = "Wrap" from hc) (by decide +kernel)
      | lift _ => exact absurd (show ("Lift" : Str) = "Wrap" from hc) (by decide +kernel)
      | rev _ => exact absurd (show ("Reverse" : Str) = "Wrap" from hc) (by decide +kernel)
      | setv _ _ => exact absurd (show ("SetValue" : Str) = "Wrap" from hc) (by decide +kernel)
theorem ok_Wrap_eq (T : Tx K mg) : MFn P w K mg base (He.ga K "Wrap") "__eq__" CX0 2 ["self", "other"] (spEq (EqR K "Wrap")) := by
  obtain ⟨fd, F⟩ := T.d_Wrap_eq_
  refine mfn T.me_Wrap_eq_ F (F.bindsN fun _ _ _ _ _ _ us hl => match us, hl with | [_, _], _ => rfl) (ok0 F sc_Wrap_eq_ (fun vs H Q E h => ?_) fun cdv A outer s H vs Q E hr h => ?_)
  · obtain ⟨a, b, rfl, _⟩ := h; rfl
  · obtain ⟨a, b, rfl, ⟨d, ha, hb, hc, hp⟩, q⟩ := h
    have tb := tyD T hb
    have kb := T.kD_Thing d
    obtain ⟨dx, ha⟩ := ha
    obtain ⟨dy, hb⟩ := hb
    have fa := fld_no_class_name (d := d)
    have ff := fld_no_facts (d := d)
    rw [hc] at ha hb tb kb
    refine ⟨_, pss_cons (ps_if (PW.pt (pw_or (pt_not (pt_val (pe_callB call_isi rfl T.z_isinstance b_isinstance (pa_cons (pv 1) (pa_cons (pe_glob (v := .ref (He.ga K "Thing")) rfl T.g_Thing rfl) pa_nil))))) (pw_or1 (pt_cmpR op_ne (pe_m0 T.cl_Wrap (ok_Wrap_class_name T) hr pass0 (pv 0)) (pe_m0 T.cl_Wrap (ok_Wrap_class_name T) hr pass0 (pv 1)) (nomark _))))) (pss_one (ps_ret pe_bl)) pss_nil)
      (pss_one (ps_ret (pe_cmpR (op_eqD hr.units) (pe_m0 T.cl_Wrap (ok_Wrap_facts T) hr pass0 (pv 0)) (pe_m0 T.cl_Wrap (ok_Wrap_facts T) hr pass0 (pv 1)) (nomark _)))), ?_⟩
    refine ⟨_, rfl, _, _, _, _, _, rfl, .own _, tb, kb, _, rfl, iteF ?_⟩
    refine ⟨_, rfl, a, dx, _, rfl, ha, fa, _, rfl, _, rfl, b, dy, _, rfl, hb, fa, _, rfl, rfl, _, rfl, ?_⟩
    refine iteB (c := false) (by decide +kernel) (iteF ?_)
    refine ⟨_, rfl, a, dx, _, rfl, ha, ff, a, d, rfl, ⟨dx, by rw [hc]; exact ha⟩, hc, fun t ht => ?_⟩
    have hb2 : upd H t (.tup d.args) b = some (.ins (He.ga K "Wrap") dy d.fs) := by rw [upd_ne (ne_of_none hb ht)]; exact hb
    refine ⟨_, rfl, b, dy, _, rfl, hb2, ff, b, d, rfl, ⟨dy, by rw [hc]; exact hb2⟩, hc, fun u hu => ?_⟩
    refine ⟨.tuple (d.args.map vPD), .tuple (d.args.map vPD), .tup (SqT.of (by rw [upd_ne (ne_of_none (H := upd H t (.tup d.args)) upd_same hu)]; exact upd_same)) (plain_dpA hp), .tup (SqT.of upd_same) (plain_dpA hp), plain_shaped hp, plain_shaped hp, ?_⟩
    rw [plain_eqv hp]
    exact q _ ((Ex.new ht).trans (Ex.new hu))
theorem ok_Reverse_init (T : Tx K mg) : KFn P w K mg base "Reverse" (He.ga K "Reverse") CX0 1 ["self", "parent"] (spNew K "Reverse") := by
  obtain ⟨fd, F⟩ := T.d_Reverse_init_
  refine ⟨_, fd, T.g_Reverse, T.mk_Reverse, F.bindsN fun _ _ _ _ _ _ us hl => match us, hl with | [_, _], _ => rfl, ok0 F sc_Reverse_init_ (fun vs H Q E h => ?_) fun cdv A outer s H vs Q E hr h => ?_⟩
  · obtain ⟨x, dx, d, rfl, hc, _⟩ := h
    cases d with
      | rev _ => rfl
      | put _ _ _ _ => exact absurd (show ("Put" : Str) = "Reverse" from hc) (by decide +kernel)
      | move _ _ _ => exact absurd (show ("Move" : Str) = "Reverse" from hc) (by decide +kernel)
      | cut _ => exact absurd (show ("Cut" : Str) = "Reverse" from hc) (by decide +kernel)
      | lift _ => exact absurd (show ("Lift" : Str) = "Reverse" from hc) (by decide +kernel)
      | wrap _ _ _ _ _ => exact absurd (show ("Wrap" : Str) = "Reverse" from hc) (by decide +kernel)
      | setv _ _ => exact absurd (show ("SetValue" : Str) = "Reverse" from hc) (by decide +kernel)
  · obtain ⟨x, dx, d, rfl, hc, hx, q⟩ := h
    cases d with
      | rev p =>
        refine ⟨_, pss_one (ps_fld (pv 0) (pv 1) rfl), ?_⟩
        refine ⟨_, rfl, _, rfl, x, He.ga K "Reverse", dx, _, rfl, hx, T.cl_Reverse, T.no_Reverse_parent, (by first | decide | exact Nat.lt_of_le_of_lt (Nat.zero_le _) (by decide)), ?_⟩
        exact q _ (Bt.refl).at_ upd_same
      | put _ _ _ _ => exact absurd (show ("Put" : Str) = "Reverse" from hc) (by decide +kernel)
      | move _ _ _ => exact absurd (show ("Move" : Str) = "Reverse" from hc) (by decide +kernel)
      | cut _ => exact absurd (show ("Cut" : Str) = "Reverse" from hc) (by decide +kernel)
      | lift _ => exact absurd (show ("Lift" : Str) = "Reverse" from hc) (by decide +kernel)
      | wrap _ _ _ _ _ => exact absurd (show ("Wrap" : Str) = "Reverse" from hc) (by decide +kernel)
      | setv _ _ => exact absurd (show ("SetValue" : Str) = "Reverse" from hc) (by decide +kernel)
theorem ok_Reverse_class_name (T : Tx K mg) : MFn P w K mg base (He.ga K "Reverse") "class_name" CX0 1 ["self"] (spWd "reverse") := by
  obtain ⟨fd, F⟩ := T.d_Reverse_class_name
  refine mfn T.me_Reverse_class_name F (F.bindsN fun _ _ _ _ _ _ us hl => match us, hl with | [_], _ => rfl) (ok0 F sc_Reverse_class_name (fun vs H Q E h => ?_) fun cdv A outer s H vs Q E hr h => ?_)
  · obtain ⟨x, rfl, _⟩ := h; rfl
  · obtain ⟨x, rfl, q⟩ := h
    exact ⟨_, pss_one (ps_ret pe_str), q⟩
theorem ok_Reverse_facts (T : Tx K mg) : MFn P w K mg base (He.ga K "Reverse") "facts" CX0 1 ["self"] (spFacts K "Reverse") := by
  obtain ⟨fd, F⟩ := T.d_Reverse_facts
  refine mfn T.me_Reverse_facts F (F.bindsN fun _ _ _ _ _ _ us hl => match us, hl with | [_], _ => rfl) (ok0 F sc_Reverse_facts (fun vs H Q E h => ?_) fun cdv A outer s H vs Q E hr h => ?_)
  · obtain ⟨a, d, rfl, _⟩ := h; rfl
  · obtain ⟨a, d, rfl, ⟨dx, h⟩, hc, q⟩ := h
    cases d with
      | rev p =>
        have h : H a = some (.ins (He.ga K "Reverse") dx (putF "parent" p [])) := h
        refine ⟨_, pss_one (ps_ret (pe_tup (pa_cons (pe_fld (pv 0) rfl) pa_nil))), ?_⟩
        exact ⟨_, rfl, a, _, dx, _, _, rfl, h, T.cl_Reverse, T.no_Reverse_parent, (by exact fs_get), (by show 1 ≤ sizeLine; decide), q⟩
      | put _ _ _ _ => exact absurd (show ("Put" : Str) = "Reverse" from hc) (by decide +kernel)
      | move _ _ _ => exact absurd (show ("Move" : Str) = "Reverse" from hc) (by decide +kernel)
      | cut _ => exact absurd (show ("Cut" : Str) = "Reverse" from hc) (by decide +kernel)
      | lift _ => exact absurd (show ("Lift" : Str) = "Reverse" from hc) (by decide +kernel)
      | wrap _ _ _ _ _ => exact absurd (show ("Wrap" : Str) = "Reverse" from hc) (by decide +kernel)
      | setv _ _ => exact absurd (show ("SetValue" : Str) = "Reverse" from hc) (by decide +kernel)
theorem ok_Reverse_eq (T : Tx K mg) : MFn P w K mg base (He.ga K "Reverse") "__eq__" CX0 2 ["self", "other"] (spEq (EqR K "Reverse")) := by
  obtain ⟨fd, F⟩ := T.d_Reverse_eq_
  refine mfn T.me_Reverse_eq_ F (F.bindsN fun _ _ _ _ _ _ us hl => match us, hl with | [_, _], _ => rfl) (ok0 F sc_Reverse_eq_ (fun vs H Q E h => ?_) fun cdv A outer s H vs Q E hr h => ?_)
  · obtain ⟨a, b, rfl, _⟩ := h; rfl
  · obtain ⟨a, b, rfl, ⟨d, ha, hb, hc, hp⟩, q⟩ := h
    have tb := tyD T hb
    have kb := T.kD_Thing d
    obtain ⟨dx, ha⟩ := ha
    obtain ⟨dy, hb⟩ := hb
    have fa := fld_no_class_name (d := d)
    have ff := fld_no_facts (d := d)
    rw [hc] at ha hb tb kb
    refine ⟨_, pss_cons (ps_if (PW.pt (pw_or (pt_not (pt_val (pe_callB call_isi rfl T.z_isinstance b_isinstance (pa_cons (pv 1) (pa_cons (pe_glob (v := .ref (He.ga K "Thing")) rfl T.g_Thing rfl) pa_nil))))) (pw_or1 (pt_cmpR op_ne (pe_m0 T.cl_Reverse (ok_Reverse_class_name T) hr pass0 (pv 0)) (pe_m0 T.cl_Reverse (ok_Reverse_class_name T) hr pass0 (pv 1)) (nomark _))))) (pss_one (ps_ret pe_bl)) pss_nil)
      (pss_one (ps_ret (pe_cmpR (op_eqD hr.units) (pe_m0 T.cl_Reverse (ok_Reverse_facts T) hr pass0 (pv 0)) (pe_m0 T.cl_Reverse (ok_Reverse_facts T) hr pass0 (pv 1)) (nomark _)))), ?_⟩
    refine ⟨_, rfl, _, _, _, _, _, rfl, .own _, tb, kb, _, rfl, iteF ?_⟩
    refine ⟨_, rfl, a, dx, _, rfl, ha, fa, _, rfl, _, rfl, b, dy, _, rfl, hb, fa, _, rfl, rfl, _, rfl, ?_⟩
    refine iteB (c := false) (by decide +kernel) (iteF ?_)
    refine ⟨_, rfl, a, dx, _, rfl, ha, ff, a, d, rfl, ⟨dx, by rw [hc]; exact ha⟩, hc, fun t ht => ?_⟩
    have hb2 : upd H t (.tup d.args) b = some (.ins (He.ga K "Reverse") dy d.fs) := by rw [upd_ne (ne_of_none hb ht)]; exact hb
    refine ⟨_, rfl, b, dy, _, rfl, hb2, ff, b, d, rfl, ⟨dy, by rw [hc]; exact hb2⟩, hc, fun u hu => ?_⟩
    refine ⟨.tuple (d.args.map vPD), .tuple (d.args.map vPD), .tup (SqT.of (by rw [upd_ne (ne_of_none (H := upd H t (.tup d.args)) upd_same hu)]; exact upd_same)) (plain_dpA hp), .tup (SqT.of upd_same) (plain_dpA hp), plain_shaped hp, plain_shaped hp, ?_⟩
    rw [plain_eqv hp]
    exact q _ ((Ex.new ht).trans (Ex.new hu))
theorem ok_SetValue_init (T : Tx K mg) : KFn P w K mg base "SetValue" (He.ga K "SetValue") CX0 1 ["self", "name", "value"] (spNew K "SetValue") := by
  obtain ⟨fd, F⟩ := T.d_SetValue_init_
  refine ⟨_, fd, T.g_SetValue, T.mk_SetValue, F.bindsN fun _ _ _ _ _ _ us hl => match us, hl with | [_, _, _], _ => rfl, ok0 F sc_SetValue_init_ (fun vs H Q E h => ?_) fun cdv A outer s H vs Q E hr h => ?_⟩
  · obtain ⟨x, dx, d, rfl, hc, _⟩ := h
    cases d with
      | setv _ _ => rfl
      | put _ _ _ _ => exact absurd (show ("Put" : Str) = "SetValue" from hc) (by decide +kernel)
      | move _ _ _ => exact absurd (show ("Move" : Str) = "SetValue" from hc) (by decide +kernel)
      | cut _ => exact absurd (show ("Cut" : Str) = "SetValue" from hc) (by decide +kernel)
      | lift _ => exact absurd (show ("Lift" : Str) = "SetValue" from hc) (by decide +kernel)
      | wrap _ _ _ _ _ => exact absurd (show ("Wrap" : Str) = "SetValue" from hc) (by decide +kernel)
      | rev _ => exact absurd (show ("Reverse" : Str) = "SetValue" from hc) (by decide +kernel)
  · obtain ⟨x, dx, d, rfl, hc, hx, q⟩ := h
    cases d with
      | setv n v =>
        refine ⟨_, pss_cons (ps_fld (pv 0) (pv 1) rfl) (pss_one (ps_fld (pv 0) (pv 2) rfl)), ?_⟩
        refine ⟨_, rfl, _, rfl, x, He.ga K "SetValue", dx, _, rfl, hx, T.cl_SetValue, T.no_SetValue_name, (by first | decide | exact Nat.lt_of_le_of_lt (Nat.zero_le _) (by decide)), ?_⟩
        refine ⟨_, rfl, _, rfl, x, He.ga K "SetValue", dx, _, rfl, upd_same, T.cl_SetValue, T.no_SetValue_value, (by first | decide | exact Nat.lt_of_le_of_lt (fs_few (Nat.le_refl 0)) (by decide)), ?_⟩
        exact q _ ((Bt.refl).at_).at_ upd_same
      | put _ _ _ _ => exact absurd (show ("Put" : Str) = "SetValue" from hc) (by decide +kernel)
      | move _ _ _ => exact absurd (show ("Move" : Str) = "SetValue" from hc) (by decide +kernel)
      | cut _ => exact absurd (show ("Cut" : Str) = "SetValue" from hc) (by decide +kernel)
      | lift _ => exact absurd (show ("Lift" : Str) = "SetValue" from hc) (by decide +kernel)
      | wrap _ _ _ _ _ => exact absurd (show ("Wrap" : Str) = "SetValue" from hc) (by decide +kernel)
      | rev _ => exact absurd (show ("Reverse" : Str) = "SetValue" from hc) (by decide +kernel)
theorem ok_SetValue_class_name (T : Tx K mg) : MFn P w K mg base (He.ga K "SetValue") "class_name" CX0 1 ["self"] (spWd "setvalue") := by
  obtain ⟨fd, F⟩ := T.d_SetValue_class_name
  refine mfn T.me_SetValue_class_name F (F.bindsN fun _ _ _ _ _ _ us hl => match us, hl with | [_], _ => rfl) (ok0 F sc_SetValue_class_name (fun vs H Q E h => ?_) fun cdv A outer s H vs Q E hr h => ?_)
  · obtain ⟨x, rfl, _⟩ := h; rfl
  · obtain ⟨x, rfl, q⟩ := h
    exact ⟨_, pss_one (ps_ret pe_str), q⟩
theorem ok_SetValue_facts (T : Tx K mg) : MFn P w K mg base (He.ga K "SetValue") "facts" CX0 1 ["self"] (spFacts K "SetValue") := by
  obtain ⟨fd, F⟩ := T.d_SetValue_facts
  refine mfn T.me_SetValue_facts F (F.bindsN fun _ _ _ _ _ _ us hl => match us, hl with | [_], _ => rfl) (ok0 F sc_SetValue_facts (fun vs H Q E h => ?_) fun cdv A outer s H vs Q E hr h => ?_)
  · obtain ⟨a, d, rfl, _⟩ := h; rfl
  · obtain ⟨a, d, rfl, ⟨dx, h⟩, hc, q⟩ := h
    cases d with
      | setv n v =>
        have h : H a = some (.ins (He.ga K "SetValue") dx (putF "value" v (putF "name" n []))) := h
        refine ⟨_, pss_one (ps_ret (pe_tup (pa_cons (pe_fld (pv 0) rfl) (pa_cons (pe_fld (pv 0) rfl) pa_nil)))), ?_⟩
        exact ⟨_, rfl, a, _, dx, _, _, rfl, h, T.cl_SetValue, T.no_SetValue_name, (by rw [fs_skip (by decide +kernel)]; exact fs_get), _, rfl, a, _, dx, _, _, rfl, h, T.cl_SetValue, T.no_SetValue_value, (by exact fs_get), (by show 2 ≤ sizeLine; decide), q⟩
      | put _ _ _ _ => exact absurd (show ("Put" : Str) = "SetValue" from hc) (by decide +kernel)
      | move _ _ _ => exact absurd (show ("Move" : Str) = "SetValue" from hc) (by decide +kernel)
      | cut _ => exact absurd (show ("Cut" : Str) = "SetValue" from hc) (by decide +kernel)
      | lift _ => exact absurd (show ("Lift" : Str) = "SetValue" from hc) (by decide +kernel)
      | wrap _ _ _ _ _ => exact absurd (show ("Wrap" : Str) = "SetValue" from hc) (by decide +kernel)
      | rev _ => exact absurd (show ("Reverse" : Str) = "SetValue" from hc) (by decide +kernel)
theorem ok_SetValue_eq (T : Tx K mg) : MFn P w K mg base (He.ga K "SetValue") "__eq__" CX0 2 ["self", "other"] (spEq (EqR K "SetValue")) := by
  obtain ⟨fd, F⟩ := T.d_SetValue_eq_
  refine mfn T.me_SetValue_eq_ F (F.bindsN fun _ _ _ _ _ _ us hl => match us, hl with | [_, _], _ => rfl) (ok0 F sc_SetValue_eq_ (fun vs H Q E h => ?_) fun cdv A outer s H vs Q E hr h => ?_)
  · obtain ⟨a, b, rfl, _⟩ := h; rfl
  · obtain ⟨a, b, rfl, ⟨d, ha, hb, hc, hp⟩, q⟩ := h
    have tb := tyD T hb
    have kb := T.kD_Thing d
    obtain ⟨dx, ha⟩ := ha
    obtain ⟨dy, hb⟩ := hb
    have fa := fld_no_class_name (d := d)
    have ff := fld_no_facts (d := d)
    rw [hc] at ha hb tb kb
    refine ⟨_, pss_cons (ps_if (PW.pt (pw_or (pt_not (pt_val (pe_callB call_isi rfl T.z_isinstance b_isinstance (pa_cons (pv 1) (pa_cons (pe_glob (v := .ref (He.ga K "Thing")) rfl T.g_Thing rfl) pa_nil))))) (pw_or1 (pt_cmpR op_ne (pe_m0 T.cl_SetValue (ok_SetValue_class_name T) hr pass0 (pv 0)) (pe_m0 T.cl_SetValue (ok_SetValue_class_name T) hr pass0 (pv 1)) (nomark _))))) (pss_one (ps_ret pe_bl)) pss_nil)
      (pss_one (ps_ret (pe_cmpR (op_eqD hr.units) (pe_m0 T.cl_SetValue (ok_SetValue_facts T) hr pass0 (pv 0)) (pe_m0 T.cl_SetValue (ok_SetValue_facts T) hr pass0 (pv 1)) (nomark _)))), ?_⟩
    refine ⟨_, rfl, _, _, _, _, _, rfl, .own _, tb, kb, _, rfl, iteF ?_⟩
    refine ⟨_, rfl, a, dx, _, rfl, ha, fa, _, rfl, _, rfl, b, dy, _, rfl, hb, fa, _, rfl, rfl, _, rfl, ?_⟩
    refine iteB (c := false) (by decide +kernel) (iteF ?_)
    refine ⟨_, rfl, a, dx, _, rfl, ha, ff, a, d, rfl, ⟨dx, by rw [hc]; exact ha⟩, hc, fun t ht => ?_⟩
    have hb2 : upd H t (.tup d.args) b = some (.ins (He.ga K "SetValue") dy d.fs) := by rw [upd_ne (ne_of_none hb ht)]; exact hb
    refine ⟨_, rfl, b, dy, _, rfl, hb2, ff, b, d, rfl, ⟨dy, by rw [hc]; exact hb2⟩, hc, fun u hu => ?_⟩
    refine ⟨.tuple (d.args.map vPD), .tuple (d.args.map vPD), .tup (SqT.of (by rw [upd_ne (ne_of_none (H := upd H t (.tup d.args)) upd_same hu)]; exact upd_same)) (plain_dpA hp), .tup (SqT.of upd_same) (plain_dpA hp), plain_shaped hp, plain_shaped hp, ?_⟩
    rw [plain_eqv hp]
    exact q _ ((Ex.new ht).trans (Ex.new hu))
end
end K13
end
section
set_option Elab.async false
set_option linter.all false
set_option maxRecDepth 100000
set_option maxHeartbeats 4000000
namespace K13
open PySem PySem.Spec PyProof.Rows L2
open Evl (Ex)
/-! ## raise NoDeed(word) -/
def spNoD (K : PySem.W.Frag) : Sp := fun vs H Q _ => ∃ a v, vs = [.ref a, v] ∧ H a = some (exo a (He.ga K "NoDeed") none) ∧
  ∀ dx, H dx = none → dx ≠ a → Q .non (upd (upd H dx (exd dx [("why", v)])) a (exo a (He.ga K "NoDeed") (some dx)))
/-- the way out with a word -/
def Rz (K : PySem.W.Frag) (H : Hp) (E : XK) (wd : Str) : Prop := ∀ d H', Ex H H' → H d = none → H' d = some (.xd [("why", .str wd)]) → E (.ref (He.ga K "NoDeed")) (some d) H'
theorem Rz.mono {K : PySem.W.Frag} {H H' : Hp} {E : XK} {wd : Str} (e : Ex H H') (h : Rz K H E wd) : Rz K H' E wd := fun d H2 e2 hd h2 => h d H2 (e.trans e2) (Evl.fresh_back e hd) h2
/-- None, or the way out with the word -/
def Out (K : PySem.W.Frag) (H : Hp) (Q : VK) (E : XK) : Option Str → Prop
  | none => ∀ H', Ex H H' → Q .non H'
  | some wd => Rz K H E wd
section
variable {P : Program} {w : World} {K : PySem.W.Frag} {mg : Str → Option Value} {base : Heap}
theorem ok_NoDeed_init (T : Tx K mg) : ∃ fd, FnOk P w K mg base CX0 1 (He.ma K (He.ga K "NoDeed") "__init__") fd ["self", "why"] (spNoD K) ∧ Binds K fd ["self", "why"] [] := by
  obtain ⟨fd, F⟩ := T.d_NoDeed_init_
  refine ⟨fd, ok0 F sc_NoDeed_init_ (fun vs H Q E h => ?_) fun cdv A outer s H vs Q E hr h => ?_, F.bindsN fun _ _ _ _ _ _ us hl => match us, hl with | [_, _], _ => rfl⟩
  · obtain ⟨a, v, rfl, _⟩ := h; rfl
  · obtain ⟨a, v, rfl, ha, q⟩ := h
    refine ⟨_, pss_one (ps_ost (pv 0) (pv 1)), ?_⟩
    refine ⟨_, rfl, _, rfl, a, He.ga K "NoDeed", rfl, oexB_ok T.oex, T.no_NoDeed_why, .inl ⟨ha, q⟩⟩
/-- raise NoDeed("word") -/
theorem ps_nodeed {X : Cx} {W : WX} {wd : Str} {k : Nat} {p1 p2 p3 pos : Pos} (T : Tx X.K X.mg) (hc : X.calm = true) (tk : Takes X W) (hr : Room 2 X.A) (hg : Gl X "NoDeed") :
    PS X (.Raise (some (.Call (.Name "NoDeed" p1) [.Constant (.str wd) k p2] [] p3)) none pos) (fun _ σ H => Rz X.K H (fun c d H' => W c d σ H') wd) := by
  obtain ⟨fd, F, hb⟩ := ok_NoDeed_init (P := X.prog) (w := X.w) (base := X.base) T
  have r := ps_raise (pos := pos) hc tk (pmk_oex (p := p1) (pos := p3) (oexB_ok T.oex) T.nd_init T.nd_tinit F hr hb .nil pass0 hg T.g_NoDeed (pa_cons (pe_str (x := wd) (j := k) (pos := p2)) pa_nil))
  refine ⟨fun pins s σ H D I h => r.run pins s σ H D I ?_⟩
  refine ⟨(by show 1 ≤ 1000; decide), fun a ha => ⟨a, _, rfl, upd_same, fun dx hd hne => ⟨rfl, dx, [("why", .str wd)], upd_same, ?_, ?_, ?_⟩⟩⟩
  · rw [upd_ne hne, upd_same]
  · rw [upd_ne hne] at hd; exact hd
  · rw [upd_ne hne] at hd
    refine h dx _ (fun b o e => ?_) hd upd_same
    have h1 : b ≠ dx := ne_of_none e hd
    have h2 : b ≠ a := ne_of_none e ha
    rw [upd_ne h1, del_ne h2, upd_ne h2, upd_ne h1, upd_ne h2]
    exact e
end
/-! ## kinds -/
def DOk (H : Hp) (d : DV) : Prop := fieldOk H d.nm ∧ fieldOk H d.vl ∧ fieldOk H d.pr ∧ fieldOk H d.rk ∧ fieldOk H d.fi ∧ fieldOk H d.la
theorem DOk.mono {H H' : Hp} (e : Ex H H') {d : DV} : DOk H d → DOk H' d := fun ⟨a, b, c, d, f, g⟩ => ⟨a.mono e, b.mono e, c.mono e, d.mono e, f.mono e, g.mono e⟩
abbrev L_named : List V := [V.str "move", V.str "cut", V.str "lift", V.str "setvalue"]
theorem in_named (d : DV) : inV (.str d.word) L_named = d.named := by
  cases d with
  | put _ _ _ _ => exact (by decide +kernel : inV (.str "put") L_named = false)
  | move _ _ _ => exact (by decide +kernel : inV (.str "move") L_named = true)
  | cut _ => exact (by decide +kernel : inV (.str "cut") L_named = true)
  | lift _ => exact (by decide +kernel : inV (.str "lift") L_named = true)
  | wrap _ _ _ _ _ => exact (by decide +kernel : inV (.str "wrap") L_named = false)
  | rev _ => exact (by decide +kernel : inV (.str "reverse") L_named = false)
  | setv _ _ => exact (by decide +kernel : inV (.str "setvalue") L_named = true)
abbrev L_new : List V := [V.str "put", V.str "wrap"]
theorem in_new (d : DV) : inV (.str d.word) L_new = d.new := by
  cases d with
  | put _ _ _ _ => exact (by decide +kernel : inV (.str "put") L_new = true)
  | move _ _ _ => exact (by decide +kernel : inV (.str "move") L_new = false)
  | cut _ => exact (by decide +kernel : inV (.str "cut") L_new = false)
  | lift _ => exact (by decide +kernel : inV (.str "lift") L_new = false)
  | wrap _ _ _ _ _ => exact (by decide +kernel : inV (.str "wrap") L_new = true)
  | rev _ => exact (by decide +kernel : inV (.str "reverse") L_new = false)
  | setv _ _ => exact (by decide +kernel : inV (.str "setvalue") L_new = false)
abbrev L_valued : List V := [V.str "put", V.str "wrap", V.str "setvalue"]
theorem in_valued (d : DV) : inV (.str d.word) L_valued = d.valued := by
  cases d with
  | put _ _ _ _ => exact (by decide +kernel : inV (.str "put") L_valued = true)
  | move _ _ _ => exact (by decide +kernel : inV (.str "move") L_valued = false)
  | cut _ => exact (by decide +kernel : inV (.str "cut") L_valued = false)
  | lift _ => exact (by decide +kernel : inV (.str "lift") L_valued = false)
  | wrap _ _ _ _ _ => exact (by decide +kernel : inV (.str "wrap") L_valued = true)
  | rev _ => exact (by decide +kernel : inV (.str "reverse") L_valued = false)
  | setv _ _ => exact (by decide +kernel : inV (.str "setvalue") L_valued = true)
abbrev L_under : List V := [V.str "put", V.str "move", V.str "wrap", V.str "reverse"]
theorem in_under (d : DV) : inV (.str d.word) L_under = d.under := by
  cases d with
  | put _ _ _ _ => exact (by decide +kernel : inV (.str "put") L_under = true)
  | move _ _ _ => exact (by decide +kernel : inV (.str "move") L_under = true)
  | cut _ => exact (by decide +kernel : inV (.str "cut") L_under = false)
  | lift _ => exact (by decide +kernel : inV (.str "lift") L_under = false)
  | wrap _ _ _ _ _ => exact (by decide +kernel : inV (.str "wrap") L_under = true)
  | rev _ => exact (by decide +kernel : inV (.str "reverse") L_under = true)
  | setv _ _ => exact (by decide +kernel : inV (.str "setvalue") L_under = false)
abbrev L_pm : List V := [V.str "put", V.str "move"]
theorem in_pm (d : DV) : inV (.str d.word) L_pm = (d.isPut || d.isMove) := by
  cases d with
  | put _ _ _ _ => exact (by decide +kernel : inV (.str "put") L_pm = true)
  | move _ _ _ => exact (by decide +kernel : inV (.str "move") L_pm = true)
  | cut _ => exact (by decide +kernel : inV (.str "cut") L_pm = false)
  | lift _ => exact (by decide +kernel : inV (.str "lift") L_pm = false)
  | wrap _ _ _ _ _ => exact (by decide +kernel : inV (.str "wrap") L_pm = false)
  | rev _ => exact (by decide +kernel : inV (.str "reverse") L_pm = false)
  | setv _ _ => exact (by decide +kernel : inV (.str "setvalue") L_pm = false)
abbrev L_all : List V := [V.str "move", V.str "cut", V.str "lift", V.str "setvalue", V.str "put", V.str "move", V.str "wrap", V.str "reverse"]
theorem in_all (d : DV) : inV (.str d.word) L_all = true := by
  cases d with
  | put _ _ _ _ => exact (by decide +kernel : inV (.str "put") L_all = true)
  | move _ _ _ => exact (by decide +kernel : inV (.str "move") L_all = true)
  | cut _ => exact (by decide +kernel : inV (.str "cut") L_all = true)
  | lift _ => exact (by decide +kernel : inV (.str "lift") L_all = true)
  | wrap _ _ _ _ _ => exact (by decide +kernel : inV (.str "wrap") L_all = true)
  | rev _ => exact (by decide +kernel : inV (.str "reverse") L_all = true)
  | setv _ _ => exact (by decide +kernel : inV (.str "setvalue") L_all = true)
theorem in_all0 : inV (.str ("" : Str)) L_all = false := by decide +kernel
theorem fl_named : L_named.all flatV = true := rfl
theorem fl_new : L_new.all flatV = true := rfl
theorem fl_valued : L_valued.all flatV = true := rfl
theorem fl_under : L_under.all flatV = true := rfl
theorem fl_pm : L_pm.all flatV = true := rfl
theorem fl_all : L_all.all flatV = true := rfl
def TH (K : PySem.W.Frag) (H : Hp) (x : V) : Option DV → Prop
  | some d => ∃ a, x = .ref a ∧ DeedAt K H a d ∧ DOk H d
  | none => ∃ t, TyX K H x t ∧ PySem.W.kitOne K t (.ref (He.ga K "Thing")) = some false
def wordO : Option DV → Str
  | some d => d.word
  | none => ""
def spKind (K : PySem.W.Frag) : Sp := fun vs H Q _ => ∃ x o, vs = [x] ∧ TH K H x o ∧ Q (.str (wordO o)) H
section
variable {P : Program} {w : World} {K : PySem.W.Frag} {mg : Str → Option Value} {base : Heap}
theorem ok_kind_of (T : Tx K mg) : GFn P w K mg base "kind_of" CX0 2 ["deed"] (spKind K) := by
  obtain ⟨fd, F⟩ := T.d_kind_of
  refine gfn T.g_kind_of F (F.bindsN fun _ _ _ _ _ _ us hl => match us, hl with | [_], _ => rfl) (ok0 F sc_kind_of (fun vs H Q E h => ?_) fun cdv A outer s H vs Q E hr h => ?_)
  · obtain ⟨x, o, rfl, _⟩ := h; rfl
  · obtain ⟨x, o, rfl, h, q⟩ := h
    cases o with
    | none =>
      obtain ⟨t, ty, k⟩ := h
      refine ⟨_, pss_one (ps_ret (pe_ifExp (pt_val (pe_callB call_isi rfl T.z_isinstance b_isinstance (pa_cons (pv 0) (pa_cons (pe_glob (v := .ref (He.ga K "Thing")) rfl T.g_Thing rfl) pa_nil)))) (pe_m0 T.cl_Put (ok_Put_class_name T) hr pass0 (pv 0)) pe_str)), ?_⟩
      exact ⟨_, rfl, _, _, _, _, _, rfl, .own _, ty, k, _, rfl, iteF q⟩
    | some d =>
      obtain ⟨a, rfl, hd, _⟩ := h
      have ty := tyD T hd
      have kt := T.kD_Thing d
      have fa := fld_no_class_name (d := d)
      obtain ⟨dx, hd⟩ := hd
      cases d with
      | put _ _ _ _ =>
        refine ⟨_, pss_one (ps_ret (pe_ifExp (pt_val (pe_callB call_isi rfl T.z_isinstance b_isinstance (pa_cons (pv 0) (pa_cons (pe_glob (v := .ref (He.ga K "Thing")) rfl T.g_Thing rfl) pa_nil)))) (pe_m0 T.cl_Put (ok_Put_class_name T) hr pass0 (pv 0)) pe_str)), ?_⟩
        exact ⟨_, rfl, _, _, _, _, _, rfl, .own _, ty, kt, _, rfl, iteT ⟨_, rfl, a, dx, _, rfl, hd, fa, _, rfl, q⟩⟩
      | move _ _ _ =>
        refine ⟨_, pss_one (ps_ret (pe_ifExp (pt_val (pe_callB call_isi rfl T.z_isinstance b_isinstance (pa_cons (pv 0) (pa_cons (pe_glob (v := .ref (He.ga K "Thing")) rfl T.g_Thing rfl) pa_nil)))) (pe_m0 T.cl_Move (ok_Move_class_name T) hr pass0 (pv 0)) pe_str)), ?_⟩
        exact ⟨_, rfl, _, _, _, _, _, rfl, .own _, ty, kt, _, rfl, iteT ⟨_, rfl, a, dx, _, rfl, hd, fa, _, rfl, q⟩⟩
      | cut _ =>
        refine ⟨_, pss_one (ps_ret (pe_ifExp (pt_val (pe_callB call_isi rfl T.z_isinstance b_isinstance (pa_cons (pv 0) (pa_cons (pe_glob (v := .ref (He.ga K "Thing")) rfl T.g_Thing rfl) pa_nil)))) (pe_m0 T.cl_Cut (ok_Cut_class_name T) hr pass0 (pv 0)) pe_str)), ?_⟩
        exact ⟨_, rfl, _, _, _, _, _, rfl, .own _, ty, kt, _, rfl, iteT ⟨_, rfl, a, dx, _, rfl, hd, fa, _, rfl, q⟩⟩
      | lift _ =>
        refine ⟨_, pss_one (ps_ret (pe_ifExp (pt_val (pe_callB call_isi rfl T.z_isinstance b_isinstance (pa_cons (pv 0) (pa_cons (pe_glob (v := .ref (He.ga K "Thing")) rfl T.g_Thing rfl) pa_nil)))) (pe_m0 T.cl_Lift (ok_Lift_class_name T) hr pass0 (pv 0)) pe_str)), ?_⟩
        exact ⟨_, rfl, _, _, _, _, _, rfl, .own _, ty, kt, _, rfl, iteT ⟨_, rfl, a, dx, _, rfl, hd, fa, _, rfl, q⟩⟩
      | wrap _ _ _ _ _ =>
        refine ⟨_, pss_one (ps_ret (pe_ifExp (pt_val (pe_callB call_isi rfl T.z_isinstance b_isinstance (pa_cons (pv 0) (pa_cons (pe_glob (v := .ref (He.ga K "Thing")) rfl T.g_Thing rfl) pa_nil)))) (pe_m0 T.cl_Wrap (ok_Wrap_class_name T) hr pass0 (pv 0)) pe_str)), ?_⟩
        exact ⟨_, rfl, _, _, _, _, _, rfl, .own _, ty, kt, _, rfl, iteT ⟨_, rfl, a, dx, _, rfl, hd, fa, _, rfl, q⟩⟩
      | rev _ =>
        refine ⟨_, pss_one (ps_ret (pe_ifExp (pt_val (pe_callB call_isi rfl T.z_isinstance b_isinstance (pa_cons (pv 0) (pa_cons (pe_glob (v := .ref (He.ga K "Thing")) rfl T.g_Thing rfl) pa_nil)))) (pe_m0 T.cl_Reverse (ok_Reverse_class_name T) hr pass0 (pv 0)) pe_str)), ?_⟩
        exact ⟨_, rfl, _, _, _, _, _, rfl, .own _, ty, kt, _, rfl, iteT ⟨_, rfl, a, dx, _, rfl, hd, fa, _, rfl, q⟩⟩
      | setv _ _ =>
        refine ⟨_, pss_one (ps_ret (pe_ifExp (pt_val (pe_callB call_isi rfl T.z_isinstance b_isinstance (pa_cons (pv 0) (pa_cons (pe_glob (v := .ref (He.ga K "Thing")) rfl T.g_Thing rfl) pa_nil)))) (pe_m0 T.cl_SetValue (ok_SetValue_class_name T) hr pass0 (pv 0)) pe_str)), ?_⟩
        exact ⟨_, rfl, _, _, _, _, _, rfl, .own _, ty, kt, _, rfl, iteT ⟨_, rfl, a, dx, _, rfl, hd, fa, _, rfl, q⟩⟩
end
end K13
end
section
set_option Elab.async false
set_option linter.all false
set_option maxRecDepth 100000
set_option maxHeartbeats 4000000
namespace K13
open PySem PySem.Spec PyProof.Rows L2
open Evl (Ex)
/-- a op1 b op2 c op3 e -/
def tChain3 (r r' r'' : R2) (ta tb tc td : TE) : TE := fun σ H Q => ta σ H fun x H1 => tb σ H1 fun y H2 => r x y H2 fun z H3 => ∃ k, z = .bl k ∧
  (if k = true then tc σ H3 fun y' H4 => r' y y' H4 fun z' H5 => ∃ k', z' = .bl k' ∧ (if k' = true then td σ H5 fun u H6 => r'' y' u H6 Q else Q (.bl false) H5) else Q (.bl false) H3)
theorem pe_chain3 {X : Cx} {a b c d : Expr} {ta tb tc td : TE} {pos : Pos} {op op' op'' : CmpOp} {r r' r'' : R2} (ho : OpR X (compareOp op) r) (ho' : OpR X (compareOp op') r') (ho'' : OpR X (compareOp op'') r'') (ha : PE X a ta) (hb : PE X b tb) (hc : PE X c tc) (hd : PE X d td)
    (hm : lastMarks [op, op', op''] [b, c, d] = false := by with_unfolding_all rfl) : PE X (.Compare a [op, op', op''] [b, c, d] pos) (tChain3 r r' r'' ta tb tc td) := by
  refine ⟨fun pins s σ H Q I h => ?_⟩
  refine Compare_chain (thn (ha.run pins s σ H _ I h) fun v s1 ⟨x, H1, I1, r1, q1⟩ => chain_link (thn (hb.run pins s1 σ H1 _ I1 q1) fun u s2 ⟨y, H2, I2, r2, q2⟩ =>
    thn (ho pins s2 σ H2 x y v u _ I2 r1 r2 q2) fun d s3 ⟨z, H3, I3, r3, k, e, q3⟩ => ?_)) hm
  subst e
  cases r3
  refine wpAny_truthy_bool ?_
  cases k with
  | false => exact ite_ff ⟨.bl false, H3, I3, rfl, q3⟩
  | true =>
    refine ite_tt (chain_link (thn (hc.run pins s3 σ H3 _ I3 q3) fun w' s4 ⟨z', H4, I4, r4, q4⟩ => thn (ho' pins s4 σ H4 y z' u w' _ I4 r2 r4 q4) fun d' s5 ⟨z2, H5, I5, r5, k', e', q5⟩ => ?_))
    subst e'
    cases r5
    refine wpAny_truthy_bool ?_
    cases k' with
    | false => exact ite_ff ⟨.bl false, H5, I5, rfl, q5⟩
    | true => exact ite_tt (chain_last (thn (hd.run pins s5 σ H5 _ I5 q5) fun w3 s6 ⟨z3, H6, I6, r6, q6⟩ => ho'' pins s6 σ H6 z' z3 w' w3 Q I6 r4 r6 q6))
theorem pt_chain3 {X : Cx} {a b c d : Expr} {ta tb tc td : TE} {pos : Pos} {op op' op'' : CmpOp} {r r' r'' : R2} (ho : OpR X (compareOp op) r) (ho' : OpR X (compareOp op') r') (ho'' : OpR X (compareOp op'') r'') (ha : PE X a ta) (hb : PE X b tb) (hc : PE X c tc) (hd : PE X d td)
    (hm : lastMarks [op, op', op''] [b, c, d] = false := by with_unfolding_all rfl) : PT X (.Compare a [op, op', op''] [b, c, d] pos) (tTest (tChain3 r r' r'' ta tb tc td)) := by
  refine ⟨fun pins s σ H Q I h => ?_⟩
  refine isTrue_chain (thn (ha.run pins s σ H _ I h) fun v s1 ⟨x, H1, I1, r1, q1⟩ => test_link (thn (hb.run pins s1 σ H1 _ I1 q1) fun u s2 ⟨y, H2, I2, r2, q2⟩ =>
    thn (ho pins s2 σ H2 x y v u _ I2 r1 r2 q2) fun d s3 ⟨z, H3, I3, r3, k, e, q3⟩ => ?_)) hm
  subst e
  cases r3
  refine wpAny_truthy_bool ?_
  cases k with
  | false =>
    obtain ⟨k', e', q'⟩ := q3
    cases e'
    exact ite_ff ⟨H3, I3, q'⟩
  | true =>
    refine ite_tt (test_link (thn (hc.run pins s3 σ H3 _ I3 q3) fun w' s4 ⟨z', H4, I4, r4, q4⟩ => thn (ho' pins s4 σ H4 y z' u w' _ I4 r2 r4 q4) fun d' s5 ⟨z2, H5, I5, r5, k', e', q5⟩ => ?_))
    subst e'
    cases r5
    refine wpAny_truthy_bool ?_
    cases k' with
    | false =>
      obtain ⟨k2, e2, q2⟩ := q5
      cases e2
      exact ite_ff ⟨H5, I5, q2⟩
    | true =>
      refine ite_tt (test_last (thn (hd.run pins s5 σ H5 _ I5 q5) fun w3 s6 ⟨z3, H6, I6, r6, q6⟩ => thn (ho'' pins s6 σ H6 z' z3 w' w3 _ I6 r4 r6 q6) fun d' s7 ⟨z4, H7, I7, r7, k3, e3, q7⟩ => ?_))
      subst e3
      cases r7
      exact wpAny_truthy_bool ⟨H7, I7, q7⟩
/-! ## the word of check_deed -/
def toPar : V → Option Str
  | .str s => some s
  | _ => none
def nmS : V → Str
  | .str s => s
  | _ => ""
def intV : V → Int
  | .int i => i
  | _ => 0
abbrev kidsP (rs : FM.Rows Str) (p : V) : List Str := FM.kidsOf rs (toPar p)
def othersP (rs : FM.Rows Str) (d : DV) : List Str := (kidsP rs d.pr).filter fun m => d.isPut || decide (m ≠ nmS d.nm)
def whyN (rs : FM.Rows Str) (d : DV) : Option Str :=
  if d.named = true ∧ hasV rs d.nm = false then some "node" else if d.under = true ∧ d.pr ≠ .non ∧ hasV rs d.pr = false then some "node" else none
def wrapBad (rs : FM.Rows Str) (d : DV) : Bool := !(isInt d.fi && (isInt d.la && (decide (0 ≤ intV d.fi) && (decide (intV d.fi < intV d.la) && decide (intV d.la ≤ (kidsP rs d.pr).length)))))
def rankBad (rs : FM.Rows Str) (d : DV) : Bool := !(isInt d.rk && (decide (0 ≤ intV d.rk) && decide (intV d.rk ≤ (othersP rs d).length)))
def whyR (rs : FM.Rows Str) (d : DV) : Option Str :=
  if d.isWrap = true ∧ wrapBad rs d = true then some "rank" else if (d.isPut || d.isMove) = true ∧ rankBad rs d = true then some "rank" else none
def moveIn (rs : FM.Rows Str) (d : DV) : Bool := inV d.pr (sVs (nmS d.nm :: FM.names (FM.bel rs (nmS d.nm))))
def whyD (rs : FM.Rows Str) (d : DV) : Option Str :=
  if d.new = true ∧ isNam d.nm = false then some "name" else
  if d.valued = true ∧ isVal d.vl = false then some "value" else
  match whyN rs d with
  | some w => some w
  | none =>
    if d.new = true ∧ hasV rs d.nm = true then some "taken" else
    if d.isMove = true ∧ moveIn rs d = true then some "below" else
    match whyR rs d with
    | some w => some w
    | none => if d.new = true ∧ 60 ≤ rs.length then some "many" else none
def whyV (rs : FM.Rows Str) : Option DV → Option Str
  | none => some "deed"
  | some d => whyD rs d
/-- what check_nodes leaves: a parent that is one -/
def parGood (rs : FM.Rows Str) (p : V) : Prop := p = optV (toPar p) ∧ ∀ n, toPar p = some n → n ∈ FM.names rs
theorem hasV_mem {rs : FM.Rows Str} {v : V} (h : hasV rs v = true) : ∃ n, v = .str n ∧ n ∈ FM.names rs := by
  cases v with
  | str n => exact ⟨n, rfl, of_decide_eq_true h⟩
  | non => cases h
  | bl b => cases h
  | int i => cases h
  | ref a => cases h
  | byt b => cases h
  | flt b => cases h
  | ty n => cases h
theorem whyN_nm {rs : FM.Rows Str} {d : DV} (h : whyN rs d = none) (hn : d.named = true) : ∃ n, d.nm = .str n ∧ n ∈ FM.names rs := by
  unfold whyN at h
  cases hv : hasV rs d.nm with
  | true => exact hasV_mem hv
  | false => rw [if_pos ⟨hn, hv⟩] at h; cases h
theorem whyN_par {rs : FM.Rows Str} {d : DV} (h : whyN rs d = none) (hu : d.under = true) : parGood rs d.pr := by
  unfold whyN at h
  split at h
  · cases h
  · by_cases hp : d.pr = .non
    · rw [hp]
      exact ⟨rfl, fun n hn => by cases hn⟩
    · cases hv : hasV rs d.pr with
      | true =>
        obtain ⟨n, e, hn⟩ := hasV_mem hv
        rw [e]
        exact ⟨rfl, fun m hm => by cases hm; exact hn⟩
      | false => rw [if_pos ⟨hu, hp, hv⟩] at h; cases h
def spKidsP (K : PySem.W.Frag) : Sp := fun vs H Q _ => ∃ p rs v, vs = [.ref p, v] ∧ ForestAt K H p rs ∧ Okf rs ∧ parGood rs v ∧ NewL (sVs (kidsP rs v)) H Q
def spChN (K : PySem.W.Frag) : Sp := fun vs H Q E => ∃ p rs a d, vs = [.ref p, .ref a] ∧ ForestAt K H p rs ∧ Okf rs ∧ DeedAt K H a d ∧ DOk H d ∧ Out K H Q E (whyN rs d)
def spChR (K : PySem.W.Frag) : Sp := fun vs H Q E => ∃ p rs a d, vs = [.ref p, .ref a] ∧ ForestAt K H p rs ∧ Okf rs ∧ DeedAt K H a d ∧ DOk H d ∧ whyN rs d = none ∧ Out K H Q E (whyR rs d)
def spCh (K : PySem.W.Frag) : Sp := fun vs H Q E => ∃ p rs x o, vs = [.ref p, x] ∧ ForestAt K H p rs ∧ Okf rs ∧ TH K H x o ∧ Out K H Q E (whyV rs o)
theorem parGood_ok {rs : FM.Rows Str} {v : V} {H : Hp} (ok : Okf rs) (h : parGood rs v) : fieldOk H v := by
  obtain ⟨e, hn⟩ := h
  rw [e]
  cases hp : toPar v with
  | none => trivial
  | some n => exact nm_len ok (hn n hp)
section
variable {P : Program} {w : World} {K : PySem.W.Frag} {mg : Str → Option Value} {base : Heap}
theorem ok_children (T : Tx K mg) : GFn P w K mg base "children_of" CX0 4 ["forest", "parent"] (spKidsP K) := by
  obtain ⟨fd, F⟩ := T.d_children_of
  refine gfn T.g_children_of F (F.bindsN fun _ _ _ _ _ _ us hl => match us, hl with | [_, _], _ => rfl) (ok0 F sc_children_of (fun vs H Q E h => ?_) fun cdv A outer s H vs Q E hr h => ?_)
  · obtain ⟨p, rs, v, rfl, _⟩ := h; rfl
  · obtain ⟨p, rs, v, rfl, G, ok, ⟨ev, hn⟩, q⟩ := h
    refine ⟨_, pss_one (ps_ret (pe_ifExp (pt_cmpR op_isN (pv 1) pe_non (nomark _)) (pe_m0 T.cl_Forest (ok_roots T) hr pass0 (pv 0)) (pe_m T.cl_Forest (ok_children_of T) hr pass0 (pv 0) (pa_cons (pv 1) pa_nil)))), ?_⟩
    obtain ⟨dx, r, o, d, hp⟩ := G.ins
    refine ⟨_, rfl, rfl, _, rfl, ?_⟩
    have q : NewL (sVs (FM.kidsOf rs (toPar v))) H Q := q
    cases hv : toPar v with
    | none =>
      rw [hv] at q
      have ev : v = .non := by rw [ev, hv]; rfl
      subst ev
      exact iteT ⟨_, rfl, p, dx, _, rfl, hp, ff_no (by decide +kernel) (by decide +kernel) (by decide +kernel), p, rs, rfl, G, ok, q⟩
    | some n =>
      rw [hv] at q
      have ev : v = .str n := by rw [ev, hv]; rfl
      subst ev
      exact iteF ⟨_, rfl, p, dx, _, rfl, hp, ff_no (by decide +kernel) (by decide +kernel) (by decide +kernel), _, rfl, p, rs, n, rfl, G, ok, hn n hv, q⟩
theorem iteE {b : Bool} {A B : Prop} (a : b = true → A) (c : b = false → B) : if b = true then A else B := by
  cases b with
  | true => exact a rfl
  | false => exact c rfl
theorem hasName_of {d : DV} (h : d.named = true) : d.hasName = true := by cases d <;> first | rfl | cases h
theorem hasName_new {d : DV} (h : d.new = true) : d.hasName = true := by cases d <;> first | rfl | cases h
theorem ok_check_nodesT (T : Tx K mg) : GFn P w K mg base "check_nodes" (L2.CX P w) 3 ["forest", "deed"] (spChN K) := by
  obtain ⟨fd, F⟩ := T.d_check_nodes
  refine gfn T.g_check_nodes F (F.bindsN fun _ _ _ _ _ _ us hl => match us, hl with | [_, _], _ => rfl) (okX F sc_check_nodes (fun vs H Q E h => ?_) fun cdv A outer s H vs Q E hr h => ?_)
  · obtain ⟨p, rs, a, d, rfl, _⟩ := h; rfl
  · obtain ⟨p, rs, a, d, rfl, G, ok, hd, hk, q⟩ := h
    refine ⟨_, Evl.pss_cut (ps_if (PW.pt (pw_and (pt_cmpR op_in_seq (pe_g (ok_kind_of T) hr pass0 (pa_cons (pv 1) pa_nil)) (pe_glob (v := .ref (He.ga K "NAMED")) rfl T.g_NAMED rfl) (by rfl)) (pw_and1 (pt_not (pt_val (pe_m T.cl_Forest (ok_has_node T) hr pass0 (pv 0) (pa_cons (pe_fld (pv 1) rfl) pa_nil))))))) (pss_one (ps_nodeed T rfl (takes_of rfl rfl rfl rfl) hr rfl)) pss_nil)
      (pss_one (ps_if (PW.pt (pw_and (pt_cmpR op_in_seq (pe_g (ok_kind_of T) hr pass0 (pa_cons (pv 1) pa_nil)) (pe_glob (v := .ref (He.ga K "UNDER")) rfl T.g_UNDER rfl) (by rfl)) (pw_and (pt_cmpR op_notN (pe_fld (pv 1) rfl) pe_non (nomark _)) (pw_and1 (pt_not (pt_val (pe_m T.cl_Forest (ok_has_node T) hr pass0 (pv 0) (pa_cons (pe_fld (pv 1) rfl) pa_nil)))))))) (pss_one (ps_nodeed T rfl (takes_of rfl rfl rfl rfl) hr rfl)) pss_nil)), ?_⟩
    obtain ⟨dxf, r, o, e, hp⟩ := G.ins
    have th : TH K H (.ref a) (some d) := ⟨a, rfl, hd, hk⟩
    have hd0 := hd
    obtain ⟨dx, hd⟩ := hd
    have hnm := fun h => ff_no (r := r) (o := o) (d := e) (m := "has_node") (by decide +kernel) (by decide +kernel) h
    refine ⟨fun σ H' => σ = [some (.ref p), some (.ref a)] ∧ H' = H ∧ ¬ (d.named = true ∧ hasV rs d.nm = false), ?_, ?_⟩
    · refine ⟨_, rfl, _, some d, rfl, th, _, _, rfl, .inr (He.tupB_ok T.t_NAMED H), rfl, fl_named, _, rfl, iteB (in_named d) (iteE (fun hn => ?_) fun hn => ⟨rfl, rfl, fun z => by rw [hn] at z; cases z.1⟩)⟩
      refine ⟨_, rfl, p, dxf, _, rfl, hp, ff_no (by decide +kernel) (by decide +kernel) (by decide +kernel), _, rfl, a, _, dx, _, _, rfl, hd, T.clD d, T.noD_nm (hasName_of hn), fld_nm (hasName_of hn), p, rs, d.nm, rfl, G, ok, hk.1, _, rfl, iteE (fun hv => ?_) fun hv => ⟨rfl, rfl, fun z => by rw [z.2] at hv; cases hv⟩⟩
      have hv : hasV rs d.nm = false := by cases h : hasV rs d.nm with
        | true => rw [h] at hv; cases hv
        | false => rfl
      unfold whyN at q
      rw [if_pos ⟨hn, hv⟩] at q
      exact q
    · rintro σ H' ⟨rfl, rfl, h1⟩
      unfold whyN at q
      rw [if_neg h1] at q
      refine ⟨_, rfl, _, some d, rfl, th, _, _, rfl, .inr (He.tupB_ok T.t_UNDER _), rfl, fl_under, _, rfl, iteB (in_under d) (iteE (fun hn => ?_) fun hn => ?_)⟩
      · refine ⟨_, rfl, a, _, dx, _, _, rfl, hd, T.clD d, T.noD_pr hn, fld_pr hn, rfl, _, rfl, iteE (fun hv => ?_) fun hv => ?_⟩
        · have hv : d.pr ≠ .non := fun z => by rw [z] at hv; cases hv
          refine ⟨_, rfl, p, dxf, _, rfl, hp, ff_no (by decide +kernel) (by decide +kernel) (by decide +kernel), _, rfl, a, _, dx, _, _, rfl, hd, T.clD d, T.noD_pr hn, fld_pr hn, p, rs, d.pr, rfl, G, ok, hk.2.2.1, _, rfl, iteE (fun hx => ?_) fun hx => ?_⟩
          · have hx : hasV rs d.pr = false := by cases h : hasV rs d.pr with
              | true => rw [h] at hx; cases hx
              | false => rfl
            rw [if_pos ⟨hn, hv, hx⟩] at q
            exact q
          · rw [if_neg (fun z => by rw [z.2.2] at hx; cases hx)] at q
            exact q _ (Ex.refl _)
        · have hv : d.pr = .non := by
            by_cases h : d.pr = .non
            · exact h
            · rw [decide_eq_false h] at hv; cases hv
          rw [if_neg (fun z => z.2.1 hv)] at q
          exact q _ (Ex.refl _)
      · rw [if_neg (fun z => by rw [hn] at z; cases z.1)] at q
        exact q _ (Ex.refl _)
end
end K13
end
section
set_option Elab.async false
set_option linter.all false
set_option maxRecDepth 100000
set_option maxHeartbeats 4000000
namespace K13
open PySem PySem.Spec PyProof.Rows L2
open Evl (Ex)
theorem int_of {v : V} (h : isInt v = true) : v = .int (intV v) := by cases v <;> first | rfl | cases h
theorem fof {b : Bool} (h : b = true → False) : b = false := by cases b <;> first | rfl | exact (h rfl).elim
theorem wrapU {d : DV} (h : d.isWrap = true) : d.under = true := by cases d <;> first | rfl | cases h
theorem pmU {d : DV} (h : (d.isPut || d.isMove) = true) : d.under = true := by cases d <;> first | rfl | cases h
theorem pmN {d : DV} (h : (d.isPut || d.isMove) = true) (h2 : d.isPut = false) : d.isMove = true := by rw [h2] at h; exact h
theorem mvN {d : DV} (h : d.isMove = true) : d.named = true := by cases d <;> first | rfl | cases h
theorem putMv {d : DV} (h : d.isPut = true) : d.isMove = false := by cases d <;> first | rfl | cases h
section
variable {P : Program} {w : World} {K : PySem.W.Frag} {mg : Str → Option Value} {base : Heap}
theorem kids_len {rs : FM.Rows Str} (ok : Okf rs) (p : Option Str) : (FM.kidsOf rs p).length ≤ 60 := by
  have h60 := ok.len
  cases p with
  | none =>
    show (FM.names (rs.filter _)).length ≤ 60
    rw [names_len]
    exact Nat.le_trans (List.length_filter_le _ _) h60
  | some n =>
    show (FM.names ((FM.bel rs n).filter _)).length ≤ 60
    rw [names_len]
    exact Nat.le_trans (List.length_filter_le _ _) (Nat.le_trans (FM.bel_sub (rs := rs) (n := n)).length_le h60)
theorem ok_check_rank (T : Tx K mg) : GFn P w K mg base "check_rank" (L2.CX P w) 5 ["forest", "deed"] (spChR K) := by
  obtain ⟨fd, F⟩ := T.d_check_rank
  refine gfn T.g_check_rank F (F.bindsN fun _ _ _ _ _ _ us hl => match us, hl with | [_, _], _ => rfl) (okX F sc_check_rank (fun vs H Q E h => ?_) fun cdv A outer s H vs Q E hr h => ?_)
  · obtain ⟨p, rs, a, d, rfl, _⟩ := h; rfl
  · obtain ⟨p, rs, a, d, rfl, G, ok, hd0, hk, hN, q⟩ := h
    refine ⟨_, Evl.pss_cut (ps_if (pt_val (pe_callB call_isi rfl T.z_isinstance b_isinstance (pa_cons (pv 1) (pa_cons (pe_glob (v := .ref (He.ga K "Wrap")) rfl T.g_Wrap rfl) pa_nil))))
        (pss_cons (ps_set (i := 2) sc_check_rank.nd rfl (.inl rfl) (pe_callB call_len_seq rfl T.z_len b_len (pa_cons (pe_g (ok_children T) hr pass0 (pa_cons (pv 0) (pa_cons (pe_fld (pv 1) rfl) pa_nil))) pa_nil)))
        (pss_one (ps_if (PW.pt (pw_or (pt_not (pt_val (pe_g (ok_is_integer T) hr pass0 (pa_cons (pe_fld (pv 1) rfl) pa_nil)))) (pw_or (pt_not (pt_val (pe_g (ok_is_integer T) hr pass0 (pa_cons (pe_fld (pv 1) rfl) pa_nil)))) (pw_or1 (pt_not (pt_chain3 op_le op_lt op_le pe_int (pe_fld (pv 1) rfl) (pe_fld (pv 1) rfl) (pv 2)))))))
          (pss_one (ps_nodeed T rfl (takes_of rfl rfl rfl rfl) (hr.mono (by decide)) rfl)) pss_nil))) pss_nil)
      (pss_one (ps_if (pt_cmpR op_in_seq (pe_g (ok_kind_of T) hr pass0 (pa_cons (pv 1) pa_nil)) (pe_tup (pa_cons pe_str (pa_cons pe_str pa_nil))) (by rfl))
        (pss_cons (ps_setLc (i := 3) (own := [("name", 4)]) (g := gName 4) (tt := tOr (tB (tCB (rIsi K) (tCons (tVar 1) (tCons (tC (.ref (He.ga K "Put"))) tNil)))) (tTest (tOp rNe (tVar 4) (tFld K (tVar 1) "name")))) rfl sc_check_rank.nd rfl rfl (sw_true rfl rfl rfl (by decide +kernel))
          (pi_seqA (pe_g (ok_children T) hr pass0 (pa_cons (pv 0) (pa_cons (pe_fld (pv 1) rfl) pa_nil)))) (blkOk_by (N := N_check_rank) (sc := defScope st_check_rank) (by decide +kernel)) (fun _ _ _ _ _ => pg_name (i := 4) sc_check_rank.nd rfl (.inl rfl))
          (fun _ _ _ _ _ => pts_one (PW.pt (pw_or (pt_val (pe_callB (r := rIsi K) call_isi rfl T.z_isinstance b_isinstance (pa_cons (pv 1) (pa_cons (pe_glob (v := .ref (He.ga K "Put")) rfl T.g_Put rfl) pa_nil)))) (pw_or1 (pt_cmpR op_ne (pv 4) (pe_fld (pv 1) rfl) (nomark _)))))) (fun _ _ _ _ _ => pv 4))
        (pss_one (ps_if (PW.pt (pw_or (pt_not (pt_val (pe_g (ok_is_integer T) hr pass0 (pa_cons (pe_fld (pv 1) rfl) pa_nil)))) (pw_or1 (pt_not (pt_chain op_le op_le pe_int (pe_fld (pv 1) rfl) (pe_callB call_len_seq rfl T.z_len b_len (pa_cons (pv 3) pa_nil)))))))
          (pss_one (ps_nodeed T rfl (takes_of rfl rfl rfl rfl) (hr.mono (by decide)) rfl)) pss_nil))) pss_nil)), ?_⟩
    have th : TH K H (.ref a) (some d) := ⟨a, rfl, hd0, hk⟩
    have ty := tyD T hd0
    obtain ⟨dx, hd⟩ := id hd0
    refine ⟨fun σ H' => (∃ v2, σ = [some (.ref p), some (.ref a), v2, none, none]) ∧ Ex H H' ∧ ¬ (d.isWrap = true ∧ wrapBad rs d = true), ?_, ?_⟩
    · refine ⟨_, rfl, _, _, _, _, _, rfl, .own _, ty, T.kD_Wrap d, _, rfl, iteE (fun hw => ?_) fun hw => ⟨⟨_, rfl⟩, Ex.refl _, fun z => by rw [hw] at z; cases z.1⟩⟩
      have hu := wrapU hw
      have pg := whyN_par hN hu
      refine ⟨_, rfl, _, rfl, a, _, dx, _, _, rfl, hd, T.clD d, T.noD_pr hu, fld_pr hu, p, rs, d.pr, rfl, G, ok, pg, fun l H1 hl e1 h1 => ⟨l, _, rfl, .inl (SqL.of h1), ?_⟩⟩
      have hd1 := e1 _ _ hd
      have hk1 := hk.mono e1
      have bad : wrapBad rs d = true → Rz K H1 E "rank" := fun hb => by
        unfold whyR at q
        rw [if_pos ⟨hw, hb⟩] at q
        exact Rz.mono e1 q
      have good : wrapBad rs d = false → (∃ v2 : Option V, ([some (.ref p), some (.ref a), some (.int ((sVs (kidsP rs d.pr)).length : Nat)), none, none] : L2.St) = [some (.ref p), some (.ref a), v2, none, none]) ∧ Ex H H1 ∧ ¬ (d.isWrap = true ∧ wrapBad rs d = true) := fun hb => ⟨⟨_, rfl⟩, e1, fun z => by rw [hb] at z; cases z.2⟩
      refine ⟨_, rfl, a, _, dx, _, _, rfl, hd1, T.clD d, T.noD_fi hw, fld_fi hw, d.fi, rfl, hk1.2.2.2.2.1, _, rfl, iteE (fun hf => ?_) fun hf => ?_⟩
      · exact bad (by unfold wrapBad; rw [show isInt d.fi = false by cases h : isInt d.fi with | true => rw [h] at hf; cases hf | false => rfl]; rfl)
      have hf : isInt d.fi = true := by cases h : isInt d.fi with | true => rfl | false => rw [h] at hf; cases hf
      refine ⟨_, rfl, a, _, dx, _, _, rfl, hd1, T.clD d, T.noD_la hw, fld_la hw, d.la, rfl, hk1.2.2.2.2.2, _, rfl, iteE (fun hl2 => ?_) fun hl2 => ?_⟩
      · exact bad (by unfold wrapBad; rw [hf, show isInt d.la = false by cases h : isInt d.la with | true => rw [h] at hl2; cases hl2 | false => rfl]; rfl)
      have hl2 : isInt d.la = true := by cases h : isInt d.la with | true => rfl | false => rw [h] at hl2; cases hl2
      have ef := int_of hf
      have el := int_of hl2
      have wb : wrapBad rs d = !(decide (0 ≤ intV d.fi) && (decide (intV d.fi < intV d.la) && decide (intV d.la ≤ (kidsP rs d.pr).length))) := by unfold wrapBad; rw [hf, hl2]; rfl
      refine ⟨_, rfl, a, _, dx, _, _, rfl, hd1, T.clD d, T.noD_fi hw, fld_fi hw, 0, intV d.fi, rfl, ef, _, rfl, iteE (fun h0 => ?_) fun h0 => ⟨_, rfl, iteT (bad ?_)⟩⟩
      · refine ⟨_, rfl, a, _, dx, _, _, rfl, hd1, T.clD d, T.noD_la hw, fld_la hw, intV d.fi, intV d.la, ef, el, _, rfl, iteE (fun h1 => ?_) fun h1 => ⟨_, rfl, iteT (bad ?_)⟩⟩
        · refine ⟨_, rfl, intV d.la, _, el, rfl, _, rfl, iteE (fun h2 => bad ?_) fun h2 => good ?_⟩
          · rw [wb, h0, h1]
            rw [sVs_len] at h2
            simpa using h2
          · rw [wb, h0, h1]
            rw [sVs_len] at h2
            simpa using h2
        · rw [wb, h0, h1]; rfl
      · rw [wb, h0]; rfl
    · rintro σ H1 ⟨⟨v2, rfl⟩, e1, h1⟩
      have hd1 := e1 _ _ hd
      have hk1 := hk.mono e1
      unfold whyR at q
      rw [if_neg h1] at q
      refine ⟨_, rfl, _, some d, rfl, ⟨a, rfl, hd0.mono e1, hk1⟩, (by show 2 ≤ sizeLine; decide), fun t ht => ⟨_, _, rfl, .inr (SqT.of upd_same), rfl, fl_pm, _, rfl, iteB (in_pm d) (iteE (fun hm => ?_) fun hm => ?_)⟩⟩
      · have e2 : Ex H (upd H1 t (.tup L_pm)) := e1.trans (Ex.new ht)
        have hu := pmU hm
        have pg := whyN_par hN hu
        refine ⟨_, rfl, _, rfl, a, _, dx, _, _, rfl, e2 _ _ hd, T.clD d, T.noD_pr hu, fld_pr hu, p, rs, d.pr, rfl, G.mono e2, ok, pg, fun l H3 hl e3 h3 => ⟨l, true, _, rfl, Sk.l h3, fun J S D hD => ?_⟩⟩
        have e13 := e2.trans e3
        have hk60 := kids_len ok (toPar d.pr)
        refine lc_by (sVs (kidsP rs d.pr)).length (fun i H' => Ex H3 H' ∧ H' D = some (.lst (sVs (((kidsP rs d.pr).take i).filter fun m => d.isPut || decide (m ≠ nmS d.nm))))) ⟨Ex.new hD, upd_same⟩ (fun i H' hi hP => S.go i H' (Sk.l (hP.1 _ _ h3)) hi) (fun H' hP => S.stop H' (Sk.l (hP.1 _ _ h3))) (fun i x H' H'' hi hP hy => ?_) fun H' hP => ?_
        · obtain ⟨e0, hx⟩ := S.yld i H' x H'' (Sk.l (hP.1 _ _ h3)) hy
          subst e0
          rw [sVs_len] at hi
          have hki : (kidsP rs d.pr)[i]? = some (kidsP rs d.pr)[i] := List.getElem?_eq_getElem hi
          generalize (kidsP rs d.pr)[i] = m at hki
          have hx' : x = .str m := by
            have : (List.map V.str (kidsP rs d.pr))[i]? = some x := hx
            rw [List.getElem?_map, hki] at this
            exact (Option.some.inj this).symm
          subst hx'
          have e14 := e13.trans hP.1
          have sn : ∀ b : Bool, (d.isPut || decide (m ≠ nmS d.nm)) = b → ((kidsP rs d.pr).take (i + 1)).filter (fun m => d.isPut || decide (m ≠ nmS d.nm)) = ((kidsP rs d.pr).take i).filter (fun m => d.isPut || decide (m ≠ nmS d.nm)) ++ (if b = true then [m] else []) := fun b hb => by
            rw [take_snoc hki, List.filter_append]
            congr 1
            subst hb
            by_cases hf : (d.isPut || decide (m ≠ nmS d.nm)) = true
            · rw [if_pos hf, List.filter_cons, if_pos hf]; rfl
            · rw [if_neg hf, List.filter_cons, if_neg hf]; rfl
          have hz : (((kidsP rs d.pr).take i).filter fun m => d.isPut || decide (m ≠ nmS d.nm)).length ≤ 60 := by
            exact Nat.le_trans (List.length_filter_le _ _) (Nat.le_trans (by rw [List.length_take]; exact Nat.min_le_right _ _) hk60)
          have keep : (d.isPut || decide (m ≠ nmS d.nm)) = true → ∃ acc, H'' D = some (.lst acc) ∧ acc.length < sizeLine ∧ Ex H3 (upd H'' D (.lst (acc ++ [V.str m]))) ∧ upd H'' D (.lst (acc ++ [V.str m])) D = some (.lst (sVs (((kidsP rs d.pr).take (i + 1)).filter fun m => d.isPut || decide (m ≠ nmS d.nm)))) := fun hb =>
            ⟨_, hP.2, szLt (by rw [sVs_len]; exact Nat.lt_of_le_of_lt hz (by decide)), hP.1.mut hD, by rw [upd_same, sn true hb, if_pos rfl, sVs_snoc]⟩
          refine ⟨rfl, _, rfl, _, _, _, _, _, rfl, .own _, tyD T (hd0.mono e14), T.kD_Put d, _, rfl, iteE (fun hp => iteT ⟨_, rfl, ?_⟩) fun hp => ?_⟩
          · obtain ⟨acc, h1, h2, h3⟩ := keep (by rw [hp]; rfl)
            exact ⟨acc, h1, h2, h3⟩
          · have hmv := pmN hm hp
            obtain ⟨nn, en, hnn⟩ := whyN_nm hN (mvN hmv)
            have hnS : nmS d.nm = nn := by rw [en]; rfl
            refine ⟨_, rfl, _, rfl, a, _, dx, _, _, rfl, e14 _ _ hd, T.clD d, T.noD_nm (hasName_of (mvN hmv)), fld_nm (hasName_of (mvN hmv)), by rw [en]; rfl, _, rfl, ?_⟩
            by_cases hq : m = nn
            · have hb : (d.isPut || decide (m ≠ nmS d.nm)) = false := by rw [hp, hnS, hq]; simp
              refine iteND (by rw [en, hq]) ⟨hP.1, ?_⟩
              rw [hP.2, sn false hb, if_neg (by decide), List.append_nil]
            · have hb : (d.isPut || decide (m ≠ nmS d.nm)) = true := by rw [hp, hnS]; simp [hq]
              obtain ⟨acc, h1, h2, h3⟩ := keep hb
              exact iteNDn (fun z => hq (by rw [en] at z; exact V.str.inj z)) ⟨_, rfl, acc, h1, h2, h3⟩
        · have hD2 := hP.2
          rw [sVs_len, List.take_length] at hD2
          have hD2 : H' D = some (.lst (sVs (othersP rs d))) := hD2
          have e14 := e13.trans hP.1
          have hd4 := e14 _ _ hd
          have bad : rankBad rs d = true → Rz K H' E "rank" := fun hb => by
            rw [if_pos ⟨hm, hb⟩] at q
            exact Rz.mono e14 q
          have good : rankBad rs d = false → Q .non H' := fun hb => by
            rw [if_neg (fun z => by rw [hb] at z; cases z.2)] at q
            exact q _ e14
          refine ⟨_, rfl, a, _, dx, _, _, rfl, hd4, T.clD d, T.noD_rk hm, fld_rk hm, d.rk, rfl, (hk.mono e14).2.2.2.1, _, rfl, iteE (fun hf => bad ?_) fun hf => ?_⟩
          · unfold rankBad; rw [show isInt d.rk = false by cases h : isInt d.rk with | true => rw [h] at hf; cases hf | false => rfl]; rfl
          have hf : isInt d.rk = true := by cases h : isInt d.rk with | true => rfl | false => rw [h] at hf; cases hf
          have ef := int_of hf
          have wb : rankBad rs d = !(decide (0 ≤ intV d.rk) && decide (intV d.rk ≤ (othersP rs d).length)) := by unfold rankBad; rw [hf]; rfl
          refine ⟨_, rfl, a, _, dx, _, _, rfl, hd4, T.clD d, T.noD_rk hm, fld_rk hm, 0, intV d.rk, rfl, ef, _, rfl, iteE (fun h0 => ?_) fun h0 => ⟨_, rfl, iteT (bad ?_)⟩⟩
          · refine ⟨_, rfl, D, _, rfl, .inl (SqL.of hD2), intV d.rk, _, ef, rfl, _, rfl, iteE (fun h2 => bad ?_) fun h2 => good ?_⟩
            · rw [wb, h0]; rw [sVs_len] at h2; simpa using h2
            · rw [wb, h0]; rw [sVs_len] at h2; simpa using h2
          · rw [wb, h0]; rfl
      · rw [if_neg (fun z => by rw [hm] at z; cases z.1)] at q
        exact q _ (e1.trans (Ex.new ht))
end
end K13
end
section
set_option Elab.async false
set_option linter.all false
set_option maxRecDepth 100000
set_option maxHeartbeats 4000000
namespace K13
open PySem PySem.Spec PyProof.Rows L2
open Evl (Ex)
theorem newV {d : DV} (h : d.new = true) : d.valued = true := by cases d <;> first | rfl | cases h
theorem mvU {d : DV} (h : d.isMove = true) : d.under = true := by cases d <;> first | rfl | cases h
theorem TH.deed {K : PySem.W.Frag} {H : Hp} {a : Addr} {d : DV} (h : DeedAt K H a d) (k : DOk H d) : TH K H (.ref a) (some d) := ⟨a, rfl, h, k⟩
theorem Out.mono {K : PySem.W.Frag} {H H' : Hp} {Q : VK} {E : XK} {o : Option Str} (e : Ex H H') (h : Out K H Q E o) : Out K H' Q E o := by
  cases o with
  | none => exact fun H2 e2 => h H2 (e.trans e2)
  | some w => exact Rz.mono e h
section
variable {P : Program} {w : World} {K : PySem.W.Frag} {mg : Str → Option Value} {base : Heap}
theorem ok_check_deed (T : Tx K mg) : GFn P w K mg base "check_deed" (L2.CX P w) 6 ["forest", "deed"] (spCh K) := by
  obtain ⟨fd, F⟩ := T.d_check_deed
  obtain ⟨mt, hM⟩ := most_ok T
  refine gfn T.g_check_deed F (F.bindsN fun _ _ _ _ _ _ us hl => match us, hl with | [_, _], _ => rfl) (okX F sc_check_deed (fun vs H Q E h => ?_) fun cdv A outer s H vs Q E hr h => ?_)
  · obtain ⟨p, rs, x, o, rfl, _⟩ := h; rfl
  · obtain ⟨p, rs, x, o, rfl, G, ok, th, q⟩ := h
    refine ⟨_, Evl.pss_cut (ps_if (pt_cmpR op_notIn_seq (pe_g (ok_kind_of T) hr pass0 (pa_cons (pv 1) pa_nil)) (pe_op op_catT (pe_glob (v := .ref (He.ga K "NAMED")) rfl T.g_NAMED rfl) (pe_glob (v := .ref (He.ga K "UNDER")) rfl T.g_UNDER rfl)) (by rfl)) (pss_one (ps_nodeed T rfl (takes_of rfl rfl rfl rfl) (hr.mono (by decide)) rfl)) pss_nil)
      (Evl.pss_cut (ps_if (PW.pt (pw_and (pt_cmpR op_in_seq (pe_g (ok_kind_of T) hr pass0 (pa_cons (pv 1) pa_nil)) (pe_glob (v := .ref (He.ga K "NEW")) rfl T.g_NEW rfl) (by rfl)) (pw_and1 (pt_not (pt_val (pe_g (ok_is_name T) hr pass0 (pa_cons (pe_fld (pv 1) rfl) pa_nil))))))) (pss_one (ps_nodeed T rfl (takes_of rfl rfl rfl rfl) (hr.mono (by decide)) rfl)) pss_nil)
      (Evl.pss_cut (ps_if (PW.pt (pw_and (pt_cmpR op_in_seq (pe_g (ok_kind_of T) hr pass0 (pa_cons (pv 1) pa_nil)) (pe_glob (v := .ref (He.ga K "VALUED")) rfl T.g_VALUED rfl) (by rfl)) (pw_and1 (pt_not (pt_val (pe_g (ok_is_value T) hr pass0 (pa_cons (pe_fld (pv 1) rfl) pa_nil))))))) (pss_one (ps_nodeed T rfl (takes_of rfl rfl rfl rfl) (hr.mono (by decide)) rfl)) pss_nil)
      (pss_cons (ps_expr (pe_g (ok_check_nodesT T) hr (passes_call (takes_of rfl rfl rfl rfl) fun _ _ _ _ h => h) (pa_cons (pv 0) (pa_cons (pv 1) pa_nil))))
      (Evl.pss_cut (ps_if (PW.pt (pw_and (pt_cmpR op_in_seq (pe_g (ok_kind_of T) hr pass0 (pa_cons (pv 1) pa_nil)) (pe_glob (v := .ref (He.ga K "NEW")) rfl T.g_NEW rfl) (by rfl)) (pw_and1 (pt_val (pe_m T.cl_Forest (ok_has_node T) hr pass0 (pv 0) (pa_cons (pe_fld (pv 1) rfl) pa_nil)))))) (pss_one (ps_nodeed T rfl (takes_of rfl rfl rfl rfl) (hr.mono (by decide)) rfl)) pss_nil)
      (Evl.pss_cut (ps_if (PW.pt (pw_and (pt_val (pe_callB call_isi rfl T.z_isinstance b_isinstance (pa_cons (pv 1) (pa_cons (pe_glob (v := .ref (He.ga K "Move")) rfl T.g_Move rfl) pa_nil)))) (pw_and1 (pt_cmpR op_in_seq (pe_fld (pv 1) rfl) (pe_op op_cat (pe_lst (pa_cons (pe_fld (pv 1) rfl) pa_nil)) (pe_m T.cl_Forest (ok_descendants_of T) hr pass0 (pv 0) (pa_cons (pe_fld (pv 1) rfl) pa_nil))) (by rfl))))) (pss_one (ps_nodeed T rfl (takes_of rfl rfl rfl rfl) (hr.mono (by decide)) rfl)) pss_nil)
      (pss_cons (ps_expr (pe_g (ok_check_rank T) hr (passes_call (takes_of rfl rfl rfl rfl) fun _ _ _ _ h => h) (pa_cons (pv 0) (pa_cons (pv 1) pa_nil))))
      (pss_one (ps_if (PW.pt (pw_and (pt_cmpR op_in_seq (pe_g (ok_kind_of T) hr pass0 (pa_cons (pv 1) pa_nil)) (pe_glob (v := .ref (He.ga K "NEW")) rfl T.g_NEW rfl) (by rfl)) (pw_and1 (pt_cmpR op_ge (pe_callB (f_len (X := cxOf (L2.CX P w) P w K mg base N_check_deed "check_deed" (defScope st_check_deed) _ cdv A outer s H E) T (hr.mono (by decide))) rfl T.z_len b_len (pa_cons (pv 0) pa_nil)) (ClX.pe_cval (pe_glob (v := .ref (CF K)) rfl T.g_Forest rfl)) (nomark _))))) (pss_one (ps_nodeed T rfl (takes_of rfl rfl rfl rfl) (hr.mono (by decide)) rfl)) pss_nil)))))))), ?_⟩
    obtain ⟨dxf, r, o', e, hp⟩ := G.ins
    cases o with
    | none =>
      have q : Rz K H E "deed" := q
      refine ⟨fun _ _ => False, ?_, fun _ _ h => h.elim⟩
      refine ⟨_, rfl, _, none, rfl, th, _, _, _, _, rfl, rfl, He.tupB_ok T.t_NAMED H, He.tupB_ok T.t_UNDER H, (by intro z; cases z), (by show 8 ≤ sizeLine; decide), (fun z => by cases z), fun _ t ht => ?_⟩
      refine ⟨_, _, rfl, .inr (SqT.of upd_same), rfl, fl_all, _, rfl, ?_⟩
      exact iteB (c := true) (congrArg (fun b => !b) in_all0) (iteT (Rz.mono (Ex.new ht) q))
    | some d =>
      obtain ⟨a, rfl, hd0, hk⟩ := th
      obtain ⟨dx, hd⟩ := id hd0
      refine ⟨fun σ H' => σ = [some (.ref p), some (.ref a)] ∧ Ex H H', ?_, ?_⟩
      · refine ⟨_, rfl, _, some d, rfl, TH.deed hd0 hk, _, _, _, _, rfl, rfl, He.tupB_ok T.t_NAMED H, He.tupB_ok T.t_UNDER H, (by intro z; cases z), (by show 8 ≤ sizeLine; decide), (fun z => by cases z), fun _ t ht => ?_⟩
        refine ⟨_, _, rfl, .inr (SqT.of upd_same), rfl, fl_all, _, rfl, ?_⟩
        exact iteB (c := false) (congrArg (fun b => !b) (in_all d)) (iteF ⟨rfl, Ex.new ht⟩)
      rintro σ H1 ⟨rfl, e1⟩
      have q : Out K H Q E (whyD rs d) := q
      unfold whyD at q
      -- the name
      refine ⟨fun σ H' => σ = [some (.ref p), some (.ref a)] ∧ Ex H H' ∧ ¬ (d.new = true ∧ isNam d.nm = false), ?_, ?_⟩
      · refine ⟨_, rfl, _, some d, rfl, TH.deed (hd0.mono e1) (hk.mono e1), _, _, rfl, .inr (He.tupB_ok T.t_NEW _), rfl, fl_new, _, rfl, iteB (in_new d) (iteE (fun hn => ?_) fun hn => ⟨rfl, e1, fun z => by rw [hn] at z; cases z.1⟩)⟩
        refine ⟨_, rfl, a, _, dx, _, _, rfl, e1 _ _ hd, T.clD d, T.noD_nm (hasName_new hn), fld_nm (hasName_new hn), d.nm, rfl, (hk.mono e1).1, fun H2 e2 => ⟨_, rfl, iteE (fun hv => ?_) fun hv => ⟨rfl, e1.trans e2, fun z => by rw [z.2] at hv; cases hv⟩⟩⟩
        have hv : isNam d.nm = false := fof fun z => by rw [z] at hv; cases hv
        rw [if_pos ⟨hn, hv⟩] at q
        exact Rz.mono (e1.trans e2) q
      rintro σ H2 ⟨rfl, e2, h1⟩
      rw [if_neg h1] at q
      -- the value
      refine ⟨fun σ H' => σ = [some (.ref p), some (.ref a)] ∧ Ex H H' ∧ ¬ (d.valued = true ∧ isVal d.vl = false), ?_, ?_⟩
      · refine ⟨_, rfl, _, some d, rfl, TH.deed (hd0.mono e2) (hk.mono e2), _, _, rfl, .inr (He.tupB_ok T.t_VALUED _), rfl, fl_valued, _, rfl, iteB (in_valued d) (iteE (fun hn => ?_) fun hn => ⟨rfl, e2, fun z => by rw [hn] at z; cases z.1⟩)⟩
        refine ⟨_, rfl, a, _, dx, _, _, rfl, e2 _ _ hd, T.clD d, T.noD_vl hn, fld_vl hn, d.vl, rfl, (hk.mono e2).2.1, _, rfl, iteE (fun hv => ?_) fun hv => ⟨rfl, e2, fun z => by rw [z.2] at hv; cases hv⟩⟩
        have hv : isVal d.vl = false := fof fun z => by rw [z] at hv; cases hv
        rw [if_pos ⟨hn, hv⟩] at q
        exact Rz.mono e2 q
      rintro σ H3 ⟨rfl, e3, h2⟩
      rw [if_neg h2] at q
      -- the nodes
      refine ⟨_, rfl, _, rfl, p, rs, a, d, rfl, G.mono e3, ok, hd0.mono e3, hk.mono e3, ?_⟩
      cases hN : whyN rs d with
      | some wd =>
        rw [hN] at q
        exact Rz.mono e3 q
      | none =>
      rw [hN] at q
      intro H4 e34
      have e4 := e3.trans e34
      -- taken
      refine ⟨fun σ H' => σ = [some (.ref p), some (.ref a)] ∧ Ex H H' ∧ ¬ (d.new = true ∧ hasV rs d.nm = true), ?_, ?_⟩
      · refine ⟨_, rfl, _, some d, rfl, TH.deed (hd0.mono e4) (hk.mono e4), _, _, rfl, .inr (He.tupB_ok T.t_NEW _), rfl, fl_new, _, rfl, iteB (in_new d) (iteE (fun hn => ?_) fun hn => ⟨rfl, e4, fun z => by rw [hn] at z; cases z.1⟩)⟩
        refine ⟨_, rfl, p, dxf, _, rfl, e4 _ _ hp, ff_no (by decide +kernel) (by decide +kernel) (by decide +kernel), _, rfl, a, _, dx, _, _, rfl, e4 _ _ hd, T.clD d, T.noD_nm (hasName_new hn), fld_nm (hasName_new hn), p, rs, d.nm, rfl, G.mono e4, ok, (hk.mono e4).1, _, rfl, iteE (fun hv => ?_) fun hv => ⟨rfl, e4, fun z => by rw [z.2] at hv; cases hv⟩⟩
        rw [if_pos ⟨hn, hv⟩] at q
        exact Rz.mono e4 q
      rintro σ H5 ⟨rfl, e5, h3⟩
      rw [if_neg h3] at q
      -- below
      refine ⟨fun σ H' => σ = [some (.ref p), some (.ref a)] ∧ Ex H H' ∧ ¬ (d.isMove = true ∧ moveIn rs d = true), ?_, ?_⟩
      · refine ⟨_, rfl, _, _, _, _, _, rfl, .own _, tyD T (hd0.mono e5), T.kD_Move d, _, rfl, iteE (fun hm => ?_) fun hm => ⟨rfl, e5, fun z => by rw [hm] at z; cases z.1⟩⟩
        obtain ⟨n, en, hn⟩ := whyN_nm hN (mvN hm)
        have pg := whyN_par hN (mvU hm)
        have hmn := hasName_of (mvN hm)
        refine ⟨_, rfl, a, _, dx, _, _, rfl, e5 _ _ hd, T.clD d, T.noD_pr (mvU hm), fld_pr (mvU hm), _, rfl, a, _, dx, _, _, rfl, e5 _ _ hd, T.clD d, T.noD_nm hmn, fld_nm hmn, (by show 1 ≤ sizeLine; decide), fun l1 hl1 => ?_⟩
        have e6 := e5.trans (Ex.new (o := .lst [d.nm]) hl1)
        refine ⟨_, rfl, p, dxf, _, rfl, e6 _ _ hp, ff_no (by decide +kernel) (by decide +kernel) (by decide +kernel), _, rfl, a, _, dx, _, _, rfl, e6 _ _ hd, T.clD d, T.noD_nm hmn, fld_nm hmn, p, rs, n, (by rw [en]; rfl), G.mono e6, ok, hn, fun l2 H7 hl2 e7 h7 => ?_⟩
        have hb60 : (FM.names (FM.bel rs n)).length ≤ 60 := by rw [names_len]; exact Nat.le_trans (FM.bel_sub (rs := rs) (n := n)).length_le ok.len
        refine ⟨l1, l2, _, _, rfl, rfl, e7 _ _ upd_same, h7, szOf (by rw [sVs_len]; show 1 + _ ≤ _; omega), fun l3 hl3 => ?_⟩
        have hfl : flatV d.pr = true := by rw [pg.1]; cases toPar d.pr <;> rfl
        have em : sVs (n :: FM.names (FM.bel rs n)) = [d.nm] ++ sVs (FM.names (FM.bel rs n)) := by rw [en]; rfl
        have hmi : moveIn rs d = inV d.pr ([d.nm] ++ sVs (FM.names (FM.bel rs n))) := by
          unfold moveIn
          rw [show nmS d.nm = n by rw [en]; rfl, em]
        refine ⟨l3, _, rfl, .inl (SqL.of upd_same), hfl, (by rw [← em]; exact flat_strs), _, rfl, iteE (fun hv => ?_) fun hv => ?_⟩
        · have hv : moveIn rs d = true := by rw [hmi]; exact hv
          rw [if_pos ⟨hm, hv⟩] at q
          exact Rz.mono ((e6.trans e7).trans (Ex.new hl3)) q
        · refine ⟨rfl, (e6.trans e7).trans (Ex.new hl3), fun z => ?_⟩
          have := z.2
          rw [hmi] at this
          rw [this] at hv
          cases hv
      rintro σ H6 ⟨rfl, e6, h4⟩
      rw [if_neg h4] at q
      -- the rank
      refine ⟨_, rfl, _, rfl, p, rs, a, d, rfl, G.mono e6, ok, hd0.mono e6, hk.mono e6, hN, ?_⟩
      cases hR : whyR rs d with
      | some wd =>
        rw [hR] at q
        exact Rz.mono e6 q
      | none =>
      rw [hR] at q
      intro H7 e67
      have e7 := e6.trans e67
      -- many
      refine ⟨_, rfl, _, some d, rfl, TH.deed (hd0.mono e7) (hk.mono e7), _, _, rfl, .inr (He.tupB_ok T.t_NEW _), rfl, fl_new, _, rfl, iteB (in_new d) (iteE (fun hn => ?_) fun hn => ?_)⟩
      · refine ⟨_, rfl, p, dxf, _, rfl, e7 _ _ hp, p, rs, rfl, G.mono e7, ok, _, rfl, (by omega), (by have := ok.len; omega), CF K, .type "type", .int 60, _, rfl, ⟨T.most_rd, T.most_ga⟩, ⟨hM, ⟨_, rfl⟩⟩, _, _, rfl, rfl, _, rfl, ?_⟩
        by_cases h60 : 60 ≤ rs.length
        · refine iteD (show (60 : Int) ≤ ((rs.length : Nat) : Int) by omega) ?_
          rw [if_pos ⟨hn, h60⟩] at q
          exact Rz.mono e7 q
        · refine iteDn (show ¬ (60 : Int) ≤ ((rs.length : Nat) : Int) by omega) ?_
          rw [if_neg (fun z => h60 z.2)] at q
          exact q _ e7
      · rw [if_neg (fun z => by rw [hn] at z; cases z.1)] at q
        exact q _ e7
end
end K13
end
section
set_option Elab.async false
set_option linter.all false
set_option maxRecDepth 100000
set_option maxHeartbeats 4000000
namespace K13
open PySem PySem.Spec PyProof.Rows L2
open Evl (Ex)
/-- a deed that can be done, as a deed of the text -/
def encD : FM.D Str → DV
  | .put n v p r => .put (.str n) (.int v) (optV p) (.int (r : Nat))
  | .move n p r => .move (.str n) (optV p) (.int (r : Nat))
  | .cut n => .cut (.str n)
  | .lift n => .lift (.str n)
  | .wrap n v p f l => .wrap (.str n) (.int v) (optV p) (.int (f : Nat)) (.int (l : Nat))
  | .rev p => .rev (optV p)
  | .setv n v => .setv (.str n) (.int v)
theorem toPar_opt {p : Option Str} : toPar (optV p) = p := by cases p <;> rfl
theorem inV_non : ∀ {l : List Str}, inV .non (sVs l) = false
  | [] => rfl
  | x :: l => by
    have e : inV .non (sVs (x :: l)) = (eqV (.str x) .non || inV .non (sVs l)) := rfl
    rw [e, inV_non (l := l)]
    rfl
theorem inV_opt {p : Option Str} {l : List Str} : inV (optV p) (sVs l) = true ↔ ∃ m, p = some m ∧ m ∈ l := by
  cases p with
  | none => rw [show optV none = .non from rfl, inV_non]; exact ⟨fun h => (by cases h), fun ⟨m, e, _⟩ => (by cases e)⟩
  | some m =>
    rw [show optV (some m) = .str m from rfl, show sVs l = l.map V.str from rfl, inV_strs]
    exact ⟨fun h => ⟨m, rfl, of_decide_eq_true h⟩, fun ⟨k, e, h⟩ => by cases e; exact decide_eq_true h⟩
theorem nam_of {v : V} (h : isNam v = true) : ∃ n, v = .str n ∧ nmOk n := by
  cases v with
  | str n => exact ⟨n, rfl, h⟩
  | non => cases h
  | bl b => cases h
  | int i => cases h
  | ref a => cases h
  | byt b => cases h
  | flt b => cases h
  | ty n => cases h
theorem val_of {v : V} (h : isVal v = true) : ∃ i, v = .int i ∧ vvOk i := by
  cases v with
  | int i =>
    have h' : (decide (-MV ≤ i) && decide (i ≤ MV)) = true := h
    obtain ⟨a, b⟩ := He.ba h'
    exact ⟨i, rfl, of_decide_eq_true a, of_decide_eq_true b⟩
  | non => cases h
  | bl b => cases h
  | str n => cases h
  | ref a => cases h
  | byt b => cases h
  | flt b => cases h
  | ty n => cases h
theorem tb {b : Bool} (h : ¬ b = false) : b = true := by cases b <;> first | rfl | exact (h rfl).elim
structure Fine (rs : FM.Rows Str) (d : DV) : Prop where
  nm : d.new = true → isNam d.nm = true
  vl : d.valued = true → isVal d.vl = true
  nd : whyN rs d = none
  tk : d.new = true → hasV rs d.nm = false
  mv : d.isMove = true → moveIn rs d = false
  rk : whyR rs d = none
  mn : d.new = true → rs.length < 60
theorem fine_of {rs : FM.Rows Str} {d : DV} (h : whyD rs d = none) : Fine rs d := by
  unfold whyD at h
  split at h
  · cases h
  · rename_i h1
    split at h
    · cases h
    · rename_i h2
      cases hN : whyN rs d with
      | some w => rw [hN] at h; cases h
      | none =>
        rw [hN] at h
        dsimp only at h
        split at h
        · cases h
        · rename_i h3
          split at h
          · cases h
          · rename_i h4
            cases hR : whyR rs d with
            | some w => rw [hR] at h; cases h
            | none =>
              rw [hR] at h
              dsimp only at h
              split at h
              · cases h
              · rename_i h5
                exact ⟨fun q => tb fun z => h1 ⟨q, z⟩, fun q => tb fun z => h2 ⟨q, z⟩, hN, fun q => fof fun z => h3 ⟨q, z⟩, fun q => fof fun z => h4 ⟨q, z⟩, hR, fun q => Nat.lt_of_not_le fun z => h5 ⟨q, z⟩⟩
theorem of_fine {rs : FM.Rows Str} {d : DV} (F : Fine rs d) : whyD rs d = none := by
  unfold whyD
  rw [if_neg (fun z => by rw [F.nm z.1] at z; cases z.2), if_neg (fun z => by rw [F.vl z.1] at z; cases z.2), F.nd]
  dsimp only
  rw [if_neg (fun z => by rw [F.tk z.1] at z; cases z.2), if_neg (fun z => by rw [F.mv z.1] at z; cases z.2), F.rk]
  dsimp only
  rw [if_neg (fun z => by have := F.mn z.1; have := z.2; omega)]
theorem whyR_w {rs : FM.Rows Str} {d : DV} (h : whyR rs d = none) (hw : d.isWrap = true) : wrapBad rs d = false := by
  unfold whyR at h
  exact fof fun z => by rw [if_pos ⟨hw, z⟩] at h; cases h
theorem pmW {d : DV} (h : (d.isPut || d.isMove) = true) : d.isWrap = false := by cases d <;> first | rfl | cases h
theorem whyR_r {rs : FM.Rows Str} {d : DV} (h : whyR rs d = none) (hw : (d.isPut || d.isMove) = true) : rankBad rs d = false := by
  unfold whyR at h
  rw [if_neg (fun z => by rw [pmW hw] at z; cases z.1)] at h
  exact fof fun z => by rw [if_pos ⟨hw, z⟩] at h; cases h
theorem nat_of {v : V} {m : Nat} (h : (!(isInt v && (decide (0 ≤ intV v) && decide (intV v ≤ (m : Int))))) = false) : ∃ r : Nat, v = .int (r : Nat) ∧ r ≤ m := by
  have h : (isInt v && (decide (0 ≤ intV v) && decide (intV v ≤ (m : Int)))) = true := by
    cases hb : (isInt v && (decide (0 ≤ intV v) && decide (intV v ≤ (m : Int)))) with
    | true => rfl
    | false => rw [hb] at h; cases h
  obtain ⟨h1, h2⟩ := He.ba h
  obtain ⟨h2, h3⟩ := He.ba h2
  have h2 := of_decide_eq_true h2
  have h3 := of_decide_eq_true h3
  refine ⟨(intV v).toNat, ?_, by omega⟩
  rw [Int.toNat_of_nonneg h2]
  exact int_of h1
theorem filt_true {l : List Str} {f : Str → Bool} (h : ∀ m, f m = true) : l.filter f = l := List.filter_eq_self.mpr fun m _ => h m
theorem par_ok {rs : FM.Rows Str} {v : V} (h : parGood rs v) : v = optV (toPar v) ∧ FM.parOk rs (toPar v) := h
/-- what check_deed lets through -/
theorem why_none {rs : FM.Rows Str} {d : DV} (h : whyD rs d = none) : ∃ D, d = encD D ∧ FM.okD nmOk vvOk rs D := by
  have F := fine_of h
  cases d with
  | put n v p r =>
    obtain ⟨n, rfl, hn⟩ := nam_of (F.nm rfl)
    obtain ⟨v, rfl, hv⟩ := val_of (F.vl rfl)
    obtain ⟨ep, hp⟩ := whyN_par F.nd rfl
    have hb := whyR_r F.rk rfl
    have hb : (!(isInt r && (decide (0 ≤ intV r) && decide (intV r ≤ (((othersP rs (.put (.str n) (.int v) p r)).length : Nat) : Int))))) = false := hb
    obtain ⟨k, rfl, hk⟩ := nat_of hb
    have ho : othersP rs (.put (.str n) (.int v) p (.int (k : Nat))) = kidsP rs p := filt_true fun m => rfl
    rw [ho] at hk
    have ep : p = optV (toPar p) := ep
    refine ⟨.put n v (toPar p) k, ?_, hn, hv, hp, ?_, hk, F.mn rfl⟩
    · show DV.put _ _ _ _ = DV.put _ _ (optV (toPar p)) _
      rw [← ep]
    · exact of_decide_eq_false (F.tk rfl)
  | move n p r =>
    obtain ⟨n, rfl, hn⟩ := whyN_nm F.nd rfl
    obtain ⟨ep, hp⟩ := whyN_par F.nd rfl
    have hb := whyR_r F.rk rfl
    have hb : (!(isInt r && (decide (0 ≤ intV r) && decide (intV r ≤ (((othersP rs (.move (.str n) p r)).length : Nat) : Int))))) = false := hb
    obtain ⟨k, rfl, hk⟩ := nat_of hb
    have ep : p = optV (toPar p) := ep
    have hp : FM.parOk rs (toPar p) := hp
    have hm : moveIn rs (.move (.str n) p (.int (k : Nat))) = false := F.mv rfl
    have hm : inV p (sVs (n :: FM.names (FM.bel rs n))) = false := hm
    refine ⟨.move n (toPar p) k, ?_, hn, hp, fun m e => ?_, ?_⟩
    · show DV.move _ _ _ = DV.move _ (optV (toPar p)) _
      rw [← ep]
    · have h3 : ¬ (m ∈ n :: FM.names (FM.bel rs n)) := fun z => by
        have : inV (optV (toPar p)) (sVs (n :: FM.names (FM.bel rs n))) = true := inV_opt.mpr ⟨m, e, z⟩
        rw [← ep, hm] at this
        cases this
      exact ⟨fun z => h3 (by rw [z]; exact List.mem_cons_self), fun z => h3 (List.mem_cons_of_mem _ z)⟩
    · have ho : othersP rs (.move (.str n) p (.int (k : Nat))) = (FM.kidsOf rs (toPar p)).filter fun m => decide (m ≠ n) := by
        unfold othersP
        congr 1
      rw [ho] at hk
      exact hk
  | cut n =>
    obtain ⟨n, rfl, hn⟩ := whyN_nm F.nd rfl
    exact ⟨.cut n, rfl, hn⟩
  | lift n =>
    obtain ⟨n, rfl, hn⟩ := whyN_nm F.nd rfl
    exact ⟨.lift n, rfl, hn⟩
  | wrap n v p f l =>
    obtain ⟨n, rfl, hn⟩ := nam_of (F.nm rfl)
    obtain ⟨v, rfl, hv⟩ := val_of (F.vl rfl)
    obtain ⟨ep, hp⟩ := whyN_par F.nd rfl
    have hb := whyR_w F.rk rfl
    have hb : (!(isInt f && (isInt l && (decide (0 ≤ intV f) && (decide (intV f < intV l) && decide (intV l ≤ (((kidsP rs p).length : Nat) : Int))))))) = false := hb
    have hb : (isInt f && (isInt l && (decide (0 ≤ intV f) && (decide (intV f < intV l) && decide (intV l ≤ (((kidsP rs p).length : Nat) : Int)))))) = true := by
      cases hc : (isInt f && (isInt l && (decide (0 ≤ intV f) && (decide (intV f < intV l) && decide (intV l ≤ (((kidsP rs p).length : Nat) : Int)))))) with
      | true => rfl
      | false => rw [hc] at hb; cases hb
    obtain ⟨h1, hb⟩ := He.ba hb
    obtain ⟨h2, hb⟩ := He.ba hb
    obtain ⟨h3, hb⟩ := He.ba hb
    obtain ⟨h4, h5⟩ := He.ba hb
    have h3 := of_decide_eq_true h3
    have h4 := of_decide_eq_true h4
    have h5 := of_decide_eq_true h5
    have ep : p = optV (toPar p) := ep
    have ef := int_of h1
    have el := int_of h2
    refine ⟨.wrap n v (toPar p) (intV f).toNat (intV l).toNat, ?_, hn, hv, hp, of_decide_eq_false (F.tk rfl), by omega, by show _ ≤ (kidsP rs p).length; omega, F.mn rfl⟩
    show DV.wrap _ _ _ _ _ = DV.wrap _ _ (optV (toPar p)) (.int (((intV f).toNat : Nat) : Int)) (.int (((intV l).toNat : Nat) : Int))
    rw [← ep, Int.toNat_of_nonneg h3, Int.toNat_of_nonneg (by omega), ← ef, ← el]
  | rev p =>
    obtain ⟨ep, hp⟩ := whyN_par F.nd rfl
    have ep : p = optV (toPar p) := ep
    refine ⟨.rev (toPar p), ?_, hp⟩
    show DV.rev _ = DV.rev (optV (toPar p))
    rw [← ep]
  | setv n v =>
    obtain ⟨n, rfl, hn⟩ := whyN_nm F.nd rfl
    obtain ⟨v, rfl, hv⟩ := val_of (F.vl rfl)
    exact ⟨.setv n v, rfl, hn, hv⟩
theorem whyN_ok {rs : FM.Rows Str} {d : DV} (h1 : d.named = true → ∃ n, d.nm = .str n ∧ n ∈ FM.names rs) (h2 : d.under = true → ∃ p, d.pr = optV p ∧ FM.parOk rs p) : whyN rs d = none := by
  unfold whyN
  rw [if_neg, if_neg]
  · rintro ⟨a, b, c⟩
    obtain ⟨p, e, hp⟩ := h2 a
    cases p with
    | none => exact b e
    | some m =>
      rw [e] at c
      have : decide (m ∈ FM.names rs) = false := c
      exact of_decide_eq_false this (hp m rfl)
  · rintro ⟨a, b⟩
    obtain ⟨n, e, hn⟩ := h1 a
    rw [e] at b
    exact of_decide_eq_false b hn
theorem why_ok {rs : FM.Rows Str} {D : FM.D Str} (h : FM.okD nmOk vvOk rs D) : whyD rs (encD D) = none := by
  refine of_fine ?_
  cases D with
  | put n v p r =>
    obtain ⟨h1, h2, h3, h4, h5, h6⟩ := h
    refine ⟨fun _ => h1, fun _ => isVal_of h2, whyN_ok (fun z => by cases z) fun _ => ⟨p, rfl, h3⟩, fun _ => decide_eq_false h4, (fun z => by cases z), ?_, fun _ => h6⟩
    unfold whyR
    rw [if_neg (fun z => by cases z.1), if_neg]
    rintro ⟨_, z⟩
    have z : (!(isInt (.int (r : Nat)) && (decide (0 ≤ ((r : Nat) : Int)) && decide (((r : Nat) : Int) ≤ (((othersP rs (encD (.put n v p r))).length : Nat) : Int))))) = true := z
    have ho : othersP rs (encD (.put n v p r)) = FM.kidsOf rs p := by
      have : othersP rs (encD (.put n v p r)) = FM.kidsOf rs (toPar (optV p)) := filt_true fun m => rfl
      rw [this, toPar_opt]
    rw [ho, decide_eq_true (by omega : 0 ≤ ((r : Nat) : Int)), decide_eq_true (by omega : ((r : Nat) : Int) ≤ (((FM.kidsOf rs p).length : Nat) : Int))] at z
    cases z
  | move n p r =>
    obtain ⟨h1, h2, h3, h4⟩ := h
    refine ⟨(fun z => by cases z), (fun z => by cases z), whyN_ok (fun _ => ⟨n, rfl, h1⟩) fun _ => ⟨p, rfl, h2⟩, (fun z => by cases z), fun _ => fof fun z => ?_, ?_, (fun z => by cases z)⟩
    · have z : inV (optV p) (sVs (n :: FM.names (FM.bel rs n))) = true := z
      obtain ⟨m, e, hm⟩ := inV_opt.mp z
      have := h3 m e
      rcases List.mem_cons.mp hm with q | q
      · exact this.1 q
      · exact this.2 q
    · unfold whyR
      rw [if_neg (fun z => by cases z.1), if_neg]
      rintro ⟨_, z⟩
      have z : (!(isInt (.int (r : Nat)) && (decide (0 ≤ ((r : Nat) : Int)) && decide (((r : Nat) : Int) ≤ (((othersP rs (encD (.move n p r))).length : Nat) : Int))))) = true := z
      have ho : othersP rs (encD (.move n p r)) = (FM.kidsOf rs p).filter fun m => decide (m ≠ n) := by
        unfold othersP kidsP
        rw [show toPar (encD (.move n p r)).pr = p from toPar_opt]
        congr 1
      rw [ho, decide_eq_true (by omega : 0 ≤ ((r : Nat) : Int)), decide_eq_true (by omega : ((r : Nat) : Int) ≤ ((((FM.kidsOf rs p).filter fun m => decide (m ≠ n)).length : Nat) : Int))] at z
      cases z
  | cut n => exact ⟨(fun z => by cases z), (fun z => by cases z), whyN_ok (fun _ => ⟨n, rfl, h⟩) (fun z => by cases z), (fun z => by cases z), (fun z => by cases z), rfl, (fun z => by cases z)⟩
  | lift n => exact ⟨(fun z => by cases z), (fun z => by cases z), whyN_ok (fun _ => ⟨n, rfl, h⟩) (fun z => by cases z), (fun z => by cases z), (fun z => by cases z), rfl, (fun z => by cases z)⟩
  | wrap n v p f l =>
    obtain ⟨h1, h2, h3, h4, h5, h6, h7⟩ := h
    refine ⟨fun _ => h1, fun _ => isVal_of h2, whyN_ok (fun z => by cases z) fun _ => ⟨p, rfl, h3⟩, fun _ => decide_eq_false h4, (fun z => by cases z), ?_, fun _ => h7⟩
    unfold whyR
    rw [if_neg, if_neg (fun z => by cases z.1)]
    rintro ⟨_, z⟩
    have z : (!(isInt (.int (f : Nat)) && (isInt (.int (l : Nat)) && (decide (0 ≤ ((f : Nat) : Int)) && (decide (((f : Nat) : Int) < ((l : Nat) : Int)) && decide (((l : Nat) : Int) ≤ (((kidsP rs (optV p)).length : Nat) : Int))))))) = true := z
    have ho : kidsP rs (optV p) = FM.kidsOf rs p := by show FM.kidsOf rs (toPar (optV p)) = _; rw [toPar_opt]
    rw [ho, decide_eq_true (by omega : 0 ≤ ((f : Nat) : Int)), decide_eq_true (by omega : ((f : Nat) : Int) < ((l : Nat) : Int)), decide_eq_true (by omega : ((l : Nat) : Int) ≤ (((FM.kidsOf rs p).length : Nat) : Int))] at z
    cases z
  | rev p => exact ⟨(fun z => by cases z), (fun z => by cases z), whyN_ok (fun z => by cases z) (fun _ => ⟨p, rfl, h⟩), (fun z => by cases z), (fun z => by cases z), rfl, (fun z => by cases z)⟩
  | setv n v => exact ⟨(fun z => by cases z), fun _ => isVal_of h.2, whyN_ok (fun _ => ⟨n, rfl, h.1⟩) (fun z => by cases z), (fun z => by cases z), (fun z => by cases z), rfl, (fun z => by cases z)⟩
end K13
end
section
set_option Elab.async false
set_option linter.all false
set_option maxRecDepth 100000
set_option maxHeartbeats 4000000
namespace K13
open PySem PySem.Spec PyProof.Rows L2
open Evl (Ex)
/-! ## two loops in a comprehension -/
theorem in_by {J : It} {g : TG} {tt : TT} {te : TE} {vs : List Nat} {σ : L2.St} {H0 : Hp} {D : Addr} {Qd : Hp → Prop} (n : Nat) (Pv : Nat → Hp → Prop) (h0 : Pv 0 H0) (hgo : ∀ i H, i < n → Pv i H → J.go i H) (hstop : ∀ H, Pv n H → J.stop n H)
    (hs : ∀ i x H H', i < n → Pv i H → J.yld i H x H' → g x (wipe σ vs) H' fun σ2 H2 => wipe σ2 vs = wipe σ vs ∧ tt σ2 H2 fun b H3 =>
      if b = true then te σ2 H3 fun y H4 => ∃ acc, H4 D = some (.lst acc) ∧ acc.length < sizeLine ∧ Pv (i + 1) (upd H4 D (.lst (acc ++ [y]))) else Pv (i + 1) H3) (hd : ∀ H, Pv n H → Qd H) :
    ∃ W : Nat → Nat → Hp → Prop, (∃ m, W 0 m H0) ∧ ∀ i m H, W i m H →
      (J.stop i H ∧ Qd H) ∨ (J.go i H ∧ ∃ Nx : Hp → Prop, (∀ H', Nx H' → ∃ m', m' < m ∧ W (i + 1) m' H') ∧ ∀ x H', J.yld i H x H' → g x (wipe σ vs) H' fun σ2 H2 => wipe σ2 vs = wipe σ vs ∧ tt σ2 H2 fun b H3 =>
        if b = true then te σ2 H3 fun y H4 => ∃ acc, H4 D = some (.lst acc) ∧ acc.length < sizeLine ∧ Nx (upd H4 D (.lst (acc ++ [y]))) else Nx H3) := by
  refine ⟨fun i m H => i ≤ n ∧ m = n - i ∧ Pv i H, ⟨n, Nat.zero_le _, rfl, h0⟩, fun i m H ⟨hi, hm, hP⟩ => ?_⟩
  by_cases he : i = n
  · subst he
    exact .inl ⟨hstop H hP, hd H hP⟩
  · have hlt : i < n := by omega
    exact .inr ⟨hgo i H hlt hP, Pv (i + 1), fun H' h => ⟨n - (i + 1), by omega, by omega, rfl, h⟩, fun x H' hy => hs i x H H' hlt hP hy⟩
theorem lc2_by {J : It} {g g1 : TG} {tt tt1 : TT} {wi1 : TI} {te : TE} {vs vs1 : List Nat} {σ : L2.St} {H0 : Hp} {D : Addr} {Qd : Hp → Prop} (n : Nat) (Pv : Nat → Hp → Prop) (h0 : Pv 0 (upd H0 D (.lst []))) (hgo : ∀ i H, i < n → Pv i H → J.go i H) (hstop : ∀ H, Pv n H → J.stop n H)
    (hs : ∀ i x H H', i < n → Pv i H → J.yld i H x H' → g x (wipe σ vs) H' fun σ2 H2 => wipe σ2 vs = wipe σ vs ∧ tt σ2 H2 fun b H3 =>
      if b = true then wi1 σ2 H3 fun J1 H4 => ∃ W1 : Nat → Nat → Hp → Prop, (∃ m, W1 0 m H4) ∧ ∀ j k H, W1 j k H →
        (J1.stop j H ∧ Pv (i + 1) H) ∨ (J1.go j H ∧ ∃ Nx1 : Hp → Prop, (∀ H', Nx1 H' → ∃ k', k' < k ∧ W1 (j + 1) k' H') ∧ ∀ x H', J1.yld j H x H' → g1 x (wipe σ2 vs1) H' fun σ3 H5 => wipe σ3 vs1 = wipe σ2 vs1 ∧ tt1 σ3 H5 fun b H6 =>
          if b = true then te σ3 H6 fun y H7 => ∃ acc, H7 D = some (.lst acc) ∧ acc.length < sizeLine ∧ Nx1 (upd H7 D (.lst (acc ++ [y]))) else Nx1 H6)
      else Pv (i + 1) H3) (hd : ∀ H, Pv n H → Qd H) :
    ∃ W : Nat → Nat → Hp → Prop, (∃ m, W 0 m (upd H0 D (.lst []))) ∧ ∀ i m H, W i m H →
      (J.stop i H ∧ Qd H) ∨ (J.go i H ∧ ∃ Nx : Hp → Prop, (∀ H', Nx H' → ∃ m', m' < m ∧ W (i + 1) m' H') ∧ ∀ x H', J.yld i H x H' → g x (wipe σ vs) H' fun σ2 H2 => wipe σ2 vs = wipe σ vs ∧ tt σ2 H2 fun b H3 =>
        if b = true then wi1 σ2 H3 fun J1 H4 => ∃ W1 : Nat → Nat → Hp → Prop, (∃ m, W1 0 m H4) ∧ ∀ j k H, W1 j k H →
          (J1.stop j H ∧ Nx H) ∨ (J1.go j H ∧ ∃ Nx1 : Hp → Prop, (∀ H', Nx1 H' → ∃ k', k' < k ∧ W1 (j + 1) k' H') ∧ ∀ x H', J1.yld j H x H' → g1 x (wipe σ2 vs1) H' fun σ3 H5 => wipe σ3 vs1 = wipe σ2 vs1 ∧ tt1 σ3 H5 fun b H6 =>
            if b = true then te σ3 H6 fun y H7 => ∃ acc, H7 D = some (.lst acc) ∧ acc.length < sizeLine ∧ Nx1 (upd H7 D (.lst (acc ++ [y]))) else Nx1 H6)
        else Nx H3) := by
  refine ⟨fun i m H => i ≤ n ∧ m = n - i ∧ Pv i H, ⟨n, Nat.zero_le _, rfl, h0⟩, fun i m H ⟨hi, hm, hP⟩ => ?_⟩
  by_cases he : i = n
  · subst he
    exact .inl ⟨hstop H hP, hd H hP⟩
  · have hlt : i < n := by omega
    exact .inr ⟨hgo i H hlt hP, Pv (i + 1), fun H' h => ⟨n - (i + 1), by omega, by omega, rfl, h⟩, fun x H' hy => hs i x H H' hlt hP hy⟩
/-! ## lists of rows -/
def ListAt (H : Hp) (v : V) (t : FM.Rows Str) : Prop := ∃ a ws, v = .ref a ∧ H a = some (.lst ws) ∧ RowsAt H ws t
def ListsAt (H : Hp) : List V → List (FM.Rows Str) → Prop
  | [], [] => True
  | v :: vs, t :: ts => ListAt H v t ∧ ListsAt H vs ts
  | _, _ => False
theorem ListAt.mono {H H' : Hp} (e : Ex H H') {v : V} {t : FM.Rows Str} : ListAt H v t → ListAt H' v t := fun ⟨a, ws, e1, h, r⟩ => ⟨a, ws, e1, e _ _ h, r.mono e⟩
theorem ListsAt.mono {H H' : Hp} (e : Ex H H') : ∀ {vs : List V} {ts : List (FM.Rows Str)}, ListsAt H vs ts → ListsAt H' vs ts
  | [], [], _ => trivial
  | [], _ :: _, h => h.elim
  | _ :: _, [], h => h.elim
  | _ :: _, _ :: _, ⟨h1, h2⟩ => ⟨h1.mono e, ListsAt.mono e h2⟩
theorem ListsAt.len {H : Hp} : ∀ {vs : List V} {ts : List (FM.Rows Str)}, ListsAt H vs ts → vs.length = ts.length
  | [], [], _ => rfl
  | [], _ :: _, h => h.elim
  | _ :: _, [], h => h.elim
  | _ :: _, _ :: _, ⟨_, h2⟩ => by rw [List.length_cons, List.length_cons, ListsAt.len h2]
theorem ListsAt.get {H : Hp} : ∀ {vs : List V} {ts : List (FM.Rows Str)} {i : Nat} {v : V}, ListsAt H vs ts → vs[i]? = some v → ∃ t, ts[i]? = some t ∧ ListAt H v t
  | [], _, _, _, _, e => by simp at e
  | _ :: _, [], _, _, h, _ => h.elim
  | _ :: _, t :: _, 0, _, ⟨h1, _⟩, e => ⟨t, rfl, by simp at e; rw [← e]; exact h1⟩
  | _ :: _, _ :: _, i + 1, _, ⟨_, h2⟩, e => ListsAt.get (i := i) h2 (by simpa using e)
theorem ListsAt.app {H : Hp} : ∀ {vs ws : List V} {ts us : List (FM.Rows Str)}, ListsAt H vs ts → ListsAt H ws us → ListsAt H (vs ++ ws) (ts ++ us)
  | [], _, [], _, _, h => h
  | [], _, _ :: _, _, h, _ => h.elim
  | _ :: _, _, [], _, h, _ => h.elim
  | _ :: _, _, _ :: _, _, ⟨h1, h2⟩, h => ⟨h1, h2.app h⟩
theorem ListsAt.snoc {H : Hp} {vs : List V} {ts : List (FM.Rows Str)} {v : V} {t : FM.Rows Str} (h : ListsAt H vs ts) (h1 : ListAt H v t) : ListsAt H (vs ++ [v]) (ts ++ [t]) := h.app (ws := [v]) (us := [t]) ⟨h1, trivial⟩
theorem ListsAt.take {H : Hp} : ∀ {vs : List V} {ts : List (FM.Rows Str)} (n : Nat), ListsAt H vs ts → ListsAt H (vs.take n) (ts.take n)
  | [], [], n, _ => by rw [List.take_nil, List.take_nil]; trivial
  | [], _ :: _, _, h => h.elim
  | _ :: _, [], _, h => h.elim
  | _ :: _, _ :: _, 0, _ => trivial
  | _ :: _, _ :: _, n + 1, ⟨h1, h2⟩ => ⟨h1, h2.take n⟩
theorem ListsAt.drop {H : Hp} : ∀ {vs : List V} {ts : List (FM.Rows Str)} (n : Nat), ListsAt H vs ts → ListsAt H (vs.drop n) (ts.drop n)
  | [], [], n, _ => by rw [List.drop_nil, List.drop_nil]; trivial
  | [], _ :: _, _, h => h.elim
  | _ :: _, [], _, h => h.elim
  | _ :: _, _ :: _, 0, h => h
  | _ :: _, _ :: _, n + 1, ⟨_, h2⟩ => h2.drop n
theorem ListsAt.rev {H : Hp} : ∀ {vs : List V} {ts : List (FM.Rows Str)}, ListsAt H vs ts → ListsAt H vs.reverse ts.reverse
  | [], [], _ => trivial
  | [], _ :: _, h => h.elim
  | _ :: _, [], h => h.elim
  | _ :: _, _ :: _, ⟨h1, h2⟩ => by
    rw [List.reverse_cons, List.reverse_cons]
    exact h2.rev.snoc h1
/-- what a promise of new rows hands on; of new lists of rows; of a new forest -/
abbrev NewR (t : FM.Rows Str) (H : Hp) (Q : VK) : Prop := ∀ l vs H', H l = none → Ex H H' → H' l = some (.lst vs) → RowsAt H' vs t → Q (.ref l) H'
abbrev NewRs (ts : List (FM.Rows Str)) (H : Hp) (Q : VK) : Prop := ∀ l vs H', H l = none → Ex H H' → H' l = some (.lst vs) → ListsAt H' vs ts → Q (.ref l) H'
abbrev NewF (K : PySem.W.Frag) (rs : FM.Rows Str) (H : Hp) (Q : VK) : Prop := ∀ p H', H p = none → Ex H H' → ForestAt K H' p rs → Q (.ref p) H'
theorem trees_len {rs : FM.Rows Str} (ok : Okf rs) {p : Option Str} (hp : FM.parOk rs p) : (FM.trees rs p).flatten.length ≤ 60 ∧ (FM.trees rs p).length ≤ 60 := by
  constructor
  · obtain ⟨pre, k, cs, post, h⟩ := FM.ctx_of ok.st hp
    rw [h.trees ok.nd, ← FM.lift_flatten]
    have h1 : (FM.lift (-k) cs.flatten).length = cs.flatten.length := List.length_map ..
    have h2 : rs.length = (pre ++ cs.flatten ++ post).length := congrArg List.length h.eq
    rw [List.length_append, List.length_append] at h2
    have := ok.len
    omega
  · show ((FM.kidsOf rs p).map _).length ≤ 60
    rw [List.length_map]
    exact kids_len ok p
theorem cut_any {K : PySem.W.Frag} {H : Hp} {r : Addr} {xs : List V} {lo hi : Option Int} {Q : VK} (h : H r = some (.tup xs)) (q : ∀ p H', Ex H H' → H' p = some (.tup (cutV xs lo hi)) → Q (.ref p) H') : rSlA K (.ref r) lo hi H Q := by
  refine ⟨r, xs, rfl, SqT.of h, fun hw => q r H (Ex.refl _) ?_, fun _ p hp => q p _ (Ex.new hp) upd_same⟩
  rw [h]
  congr 2
  unfold cutV
  rw [hw.1, hw.2, List.drop_zero, Nat.sub_zero, List.take_length]
theorem lift_take {d : Int} {rs : FM.Rows Str} {i : Nat} {r : R} (h : rs[i]? = some r) : FM.lift d (rs.take (i + 1)) = FM.lift d (rs.take i) ++ [⟨r.n, r.v, r.l + d⟩] := by
  rw [take_snoc h, FM.lift_app]
  rfl
theorem lift_len {d : Int} {rs : FM.Rows Str} : (FM.lift d rs).length = rs.length := List.length_map ..
theorem RowsAt.updL {H : Hp} {D : Addr} {w0 ys : List V} (h : H D = some (.lst w0)) : ∀ {vs : List V} {rs : FM.Rows Str}, RowsAt H vs rs → RowsAt (upd H D (.lst ys)) vs rs
  | [], [], _ => trivial
  | [], _ :: _, h => h.elim
  | _ :: _, [], h => h.elim
  | _ :: _, _ :: _, ⟨⟨q, e, h1⟩, h2⟩ => ⟨⟨q, e, by rw [upd_ne (ne_of h1 h (by intro z; cases z))]; exact h1⟩, RowsAt.updL h h2⟩
theorem del_upd {H : Hp} {D : Addr} {o : HO} : del (upd H D o) D = del H D := by
  funext b
  by_cases h : b = D
  · rw [h, del_same, del_same]
  · rw [del_ne h, del_ne h, upd_ne h]
theorem del_ex {H H' : Hp} {D : Addr} (e : Ex H H') : Ex (del H D) (del H' D) := fun b o h => by
  by_cases hb : b = D
  · rw [hb, del_same] at h; cases h
  · rw [del_ne hb] at h ⊢
    exact e b o h
theorem ex_del {H : Hp} {D : Addr} : Ex (del H D) H := fun b o h => by
  by_cases hb : b = D
  · rw [hb, del_same] at h; cases h
  · rw [del_ne hb] at h
    exact h
theorem RowsAt.del {H : Hp} {D : Addr} {w0 : List V} (h : H D = some (.lst w0)) : ∀ {vs : List V} {rs : FM.Rows Str}, RowsAt H vs rs → RowsAt (del H D) vs rs
  | [], [], _ => trivial
  | [], _ :: _, h => h.elim
  | _ :: _, [], h => h.elim
  | _ :: _, _ :: _, ⟨⟨q, e, h1⟩, h2⟩ => ⟨⟨q, e, by rw [del_ne (ne_of h1 h (by intro z; cases z))]; exact h1⟩, RowsAt.del h h2⟩
theorem ListAt.del {H : Hp} {D l : Addr} {w0 ws : List V} {t : FM.Rows Str} (h : H D = some (.lst w0)) (hl : H l = some (.lst ws)) (ne : l ≠ D) (r : RowsAt H ws t) : ListAt (del H D) (.ref l) t := ⟨l, ws, rfl, by rw [del_ne ne]; exact hl, r.del h⟩
theorem sk_upd {b : Bool} {H H' : Hp} {a : Addr} {xs : List V} (h : Sk b H a xs) (e : Ex H H') : Sk b H' a xs := e _ _ h
def spSub (K : PySem.W.Frag) : Sp := fun vs H Q _ => ∃ p rs n, vs = [.ref p, .str n] ∧ ForestAt K H p rs ∧ Okf rs ∧ n ∈ FM.names rs ∧ NewR (FM.sub rs n) H Q
def spSubs (K : PySem.W.Frag) : Sp := fun vs H Q _ => ∃ p rs v, vs = [.ref p, v] ∧ ForestAt K H p rs ∧ Okf rs ∧ parGood rs v ∧ NewRs (FM.trees rs (toPar v)) H Q
def spRaised : Sp := fun vs H Q _ => ∃ b a xs rs i, vs = [.ref a, .int i] ∧ Sk b H a xs ∧ RowsAt H xs rs ∧ rs.length ≤ 1000 ∧ NewR (FM.lift i rs) H Q
section
variable {P : Program} {w : World} {K : PySem.W.Frag} {mg : Str → Option Value} {base : Heap}
theorem ok_raised (T : Tx K mg) : GFn P w K mg base "raised" CX0 1 ["rows", "level"] spRaised := by
  obtain ⟨fd, F⟩ := T.d_raised
  refine gfn T.g_raised F (F.bindsN fun _ _ _ _ _ _ us hl => match us, hl with | [_, _], _ => rfl) (ok0 F sc_raised (fun vs H Q E h => ?_) fun cdv A outer s H vs Q E hr h => ?_)
  · obtain ⟨b, a, xs, rs, i, rfl, _⟩ := h; rfl
  · obtain ⟨b, a, xs, rs, d, rfl, hS, hR, hz, q⟩ := h
    refine ⟨_, pss_one (ps_ret (pe_lc (own := [("name", 2), ("value", 3), ("height", 4)]) (g := gTup K 3 (gCons (gName 2) (gCons (gName 3) (gCons (gName 4) gNil)))) (tt := tYes) rfl sc_raised.nd (pi_seqA (pv 0)) (blkOk_by (N := N_raised) (sc := defScope st_raised) (by decide +kernel))
      (fun _ _ _ _ _ => pg_tup rfl (pgs_cons (pg_name (i := 2) sc_raised.nd rfl (.inl rfl)) (pgs_cons (pg_name (i := 3) sc_raised.nd rfl (.inl rfl)) (pgs_cons (pg_name (i := 4) sc_raised.nd rfl (.inl rfl)) pgs_nil)))) (fun _ _ _ _ _ => pts_nil)
      (fun _ _ _ _ _ => pe_tup (pa_cons (pv 2) (pa_cons (pv 3) (pa_cons (pe_op op_add (pv 4) (pv 1)) pa_nil)))))), ?_⟩
    refine ⟨_, rfl, a, b, xs, rfl, hS, fun J S D hD => ?_⟩
    have hlen := hR.len
    refine lc_by xs.length (fun i H' => Ex H H' ∧ ∃ ws, H' D = some (.lst ws) ∧ RowsAt H' ws (FM.lift d (rs.take i))) ⟨Ex.new hD, [], upd_same, trivial⟩ (fun i H' hi hP => S.go i H' (hS.mono hP.1) hi) (fun H' hP => S.stop H' (hS.mono hP.1)) (fun i x H' H'' hi hP hy => ?_) fun H' hP => ?_
    · obtain ⟨e0, hx⟩ := S.yld i H' x H'' (hS.mono hP.1) hy
      subst e0
      obtain ⟨e1, ws, hw, hRw⟩ := hP
      obtain ⟨r, hr', q', rfl, hq'⟩ := hR.get hx
      refine ⟨q', _, rfl, SqT.of (e1 _ _ hq'), rfl, _, _, rfl, _, _, rfl, _, _, rfl, rfl, rfl, _, rfl, _, rfl, _, rfl, _, rfl, _, _, rfl, rfl, (by show 3 ≤ sizeLine; decide), fun t ht => ?_⟩
      have hDt : D ≠ t := ne_of_none hw ht
      have hw2 : upd H'' t (.tup [.str r.n, .int r.v, .int (r.l + d)]) D = some (.lst ws) := by rw [upd_ne hDt]; exact hw
      refine ⟨ws, hw2, szLt (by rw [hRw.len, lift_len, List.length_take]; omega), (e1.trans (Ex.new ht)).mut hD, _, upd_same, ?_⟩
      rw [lift_take hr']
      exact RowsAt.updL hw2 ((hRw.mono (Ex.new ht)).snoc ⟨t, rfl, upd_same⟩)
    · obtain ⟨e1, ws, hw, hRw⟩ := hP
      rw [hlen, List.take_length] at hRw
      exact q D ws H' hD e1 hw hRw
end
end K13
end
section
set_option Elab.async false
set_option linter.all false
set_option maxRecDepth 100000
set_option maxHeartbeats 4000000
namespace K13
open PySem PySem.Spec PyProof.Rows L2
open Evl (Ex)
section
variable {P : Program} {w : World} {K : PySem.W.Frag} {mg : Str → Option Value} {base : Heap}
/-- a question of the forest about a name, within a reading -/
theorem rd_of {m : Str} {f : FM.Rows Str → Str → Int} {E : XK} {p : Addr} {rs : FM.Rows Str} {n : Str} {H : Hp} {σ : L2.St} {Q : VK} {i j : Nat} (G : ForestAt K H p rs) (ok : Okf rs) (hn : n ∈ FM.names rs) (h0 : σ[i]? = some (some (.ref p))) (h1 : σ[j]? = some (some (.str n))) (k : ∀ H1, Ex H H1 → Q (.int (f rs n)) H1)
    (hm : (¬ m = "rows" ∧ ¬ m = "order" ∧ ¬ m = "spots") := by decide +kernel) : tMeth (CF K) m (spOf K f) [] E (tVar i) (tCons (tVar j) tNil) σ H Q := by
  obtain ⟨dx, r, o, d, hp⟩ := G.ins
  exact ⟨_, h0, p, dx, _, rfl, hp, ff_no hm.1 hm.2.1 hm.2.2, _, h1, p, rs, n, rfl, G, ok, hn, k⟩
theorem ok_subtree (T : Tx K mg) : GFn P w K mg base "subtree" CX0 5 ["forest", "name"] (spSub K) := by
  obtain ⟨fd, F⟩ := T.d_subtree
  refine gfn T.g_subtree F (F.bindsN fun _ _ _ _ _ _ us hl => match us, hl with | [_, _], _ => rfl) (ok0 F sc_subtree (fun vs H Q E h => ?_) fun cdv A outer s H vs Q E hr h => ?_)
  · obtain ⟨p, rs, n, rfl, _⟩ := h; rfl
  · obtain ⟨p, rs, n, rfl, G, ok, hn, q⟩ := h
    refine ⟨_, pss_cons (ps_asg (pe_tup (pa_cons (pe_m T.cl_Forest (ok_place_of T) hr pass0 (pv 0) (pa_cons (pv 1) pa_nil)) (pa_cons (pe_m T.cl_Forest (ok_level_of T) hr pass0 (pv 0) (pa_cons (pv 1) pa_nil)) pa_nil))) (pg_tup rfl (pgs_cons (pg_name (i := 2) sc_subtree.nd rfl (.inl rfl)) (pgs_cons (pg_name (i := 3) sc_subtree.nd rfl (.inr rfl)) pgs_nil))))
      (pss_cons (ps_set (i := 4) sc_subtree.nd rfl (.inl rfl) (pe_slice sl_tupA (pe_fld (pv 0) rfl) (po_some (pv 2)) (po_some (pe_op op_add (pv 2) (pe_m T.cl_Forest (ok_size_of T) hr pass0 (pv 0) (pa_cons (pv 1) pa_nil))))))
      (pss_one (ps_ret (pe_lc (own := [("one", 5), ("value", 6), ("height", 7)]) (g := gTup K 3 (gCons (gName 5) (gCons (gName 6) (gCons (gName 7) gNil)))) (tt := tYes) rfl sc_subtree.nd (pi_seqA (pv 4)) (blkOk_by (N := N_subtree) (sc := defScope st_subtree) (by decide +kernel))
        (fun _ _ _ _ _ => pg_tup rfl (pgs_cons (pg_name (i := 5) sc_subtree.nd rfl (.inl rfl)) (pgs_cons (pg_name (i := 6) sc_subtree.nd rfl (.inl rfl)) (pgs_cons (pg_name (i := 7) sc_subtree.nd rfl (.inl rfl)) pgs_nil)))) (fun _ _ _ _ _ => pts_nil)
        (fun _ _ _ _ _ => pe_tup (pa_cons (pv 5) (pa_cons (pv 6) (pa_cons (pe_op op_sub (pv 7) (pv 3)) pa_nil)))))))), ?_⟩
    refine rd_of G ok hn rfl rfl fun H1 e1 => rd_of (G.mono e1) ok hn rfl rfl fun H2 e12 => ⟨(by show 2 ≤ sizeLine; decide), fun t ht => ?_⟩
    have e3 : Ex H (upd H2 t (.tup [.int ((FM.pl rs n : Nat) : Int), .int (FM.lv rs n)])) := (e1.trans e12).trans (Ex.new ht)
    refine ⟨t, _, rfl, SqT.of upd_same, rfl, _, _, rfl, _, _, rfl, rfl, ?_⟩
    obtain ⟨dx, r, o, d, xs, kvs, Fo⟩ := G.mono e3
    refine ⟨_, rfl, p, _, dx, _, _, rfl, Fo.ins, T.cl_Forest, T.no_Forest_rows, ff_rows, _, rfl, _, rfl, _, rfl, rd_of (G.mono e3) ok hn rfl rfl fun H4 e34 => ⟨_, _, rfl, rfl, _, rfl, ?_⟩⟩
    have e4 := e3.trans e34
    refine cut_any (e34 _ _ Fo.rows) fun c H5 e45 hc => ?_
    rw [show ((FM.pl rs n : Nat) : Int) + ((FM.sizeN rs n : Nat) : Int) = ((FM.pl rs n + FM.sizeN rs n : Nat) : Int) by omega, cut_mid] at hc
    have hR : RowsAt H5 ((xs.drop (FM.pl rs n)).take (FM.sizeN rs n)) ((rs.drop (FM.pl rs n)).take (FM.sizeN rs n)) := ((Fo.at_.drop _).take _).mono (e34.trans e45)
    have hz : ((rs.drop (FM.pl rs n)).take (FM.sizeN rs n)).length ≤ 60 := by
      have := ok.len
      rw [List.length_take, List.length_drop]
      omega
    generalize hA : (rs.drop (FM.pl rs n)).take (FM.sizeN rs n) = ss at hR hz
    generalize (xs.drop (FM.pl rs n)).take (FM.sizeN rs n) = ys at hc hR
    have e5 := e4.trans e45
    refine ⟨_, rfl, c, false, ys, rfl, Sk.t hc, fun J S D hD => ?_⟩
    have hlen := hR.len
    refine lc_by ys.length (fun i H' => Ex H5 H' ∧ ∃ ws, H' D = some (.lst ws) ∧ RowsAt H' ws (FM.lift (-(FM.lv rs n)) (ss.take i))) ⟨Ex.new hD, [], upd_same, trivial⟩ (fun i H' hi hP => S.go i H' (Sk.t (hP.1 _ _ hc)) hi) (fun H' hP => S.stop H' (Sk.t (hP.1 _ _ hc))) (fun i x H' H'' hi hP hy => ?_) fun H' hP => ?_
    · obtain ⟨e0, hx⟩ := S.yld i H' x H'' (Sk.t (hP.1 _ _ hc)) hy
      subst e0
      obtain ⟨e6, ws, hw, hRw⟩ := hP
      obtain ⟨r', hr', q', rfl, hq'⟩ := hR.get hx
      refine ⟨q', _, rfl, SqT.of (e6 _ _ hq'), rfl, _, _, rfl, _, _, rfl, _, _, rfl, rfl, rfl, _, rfl, _, rfl, _, rfl, _, rfl, _, _, rfl, rfl, (by show 3 ≤ sizeLine; decide), fun t2 ht2 => ?_⟩
      have hDt : D ≠ t2 := ne_of_none hw ht2
      have hw2 : upd H'' t2 (.tup [.str r'.n, .int r'.v, .int (r'.l - FM.lv rs n)]) D = some (.lst ws) := by rw [upd_ne hDt]; exact hw
      refine ⟨ws, hw2, szLt (by rw [hRw.len, lift_len, List.length_take]; omega), (e6.trans (Ex.new ht2)).mut hD, _, upd_same, ?_⟩
      rw [lift_take hr']
      exact RowsAt.updL hw2 ((hRw.mono (Ex.new ht2)).snoc ⟨t2, rfl, upd_same⟩)
    · obtain ⟨e6, ws, hw, hRw⟩ := hP
      rw [hlen, List.take_length, ← hA] at hRw
      exact q D ws H' (Evl.fresh_back e5 hD) (e5.trans e6) hw hRw
theorem ok_subtrees (T : Tx K mg) : GFn P w K mg base "subtrees" CX0 6 ["forest", "parent"] (spSubs K) := by
  obtain ⟨fd, F⟩ := T.d_subtrees
  refine gfn T.g_subtrees F (F.bindsN fun _ _ _ _ _ _ us hl => match us, hl with | [_, _], _ => rfl) (ok0 F sc_subtrees (fun vs H Q E h => ?_) fun cdv A outer s H vs Q E hr h => ?_)
  · obtain ⟨p, rs, v, rfl, _⟩ := h; rfl
  · obtain ⟨p, rs, v, rfl, G, ok, pg, q⟩ := h
    refine ⟨_, pss_one (ps_ret (pe_lc (own := [("name", 2)]) (g := gName 2) (tt := tYes) rfl sc_subtrees.nd (pi_seqA (pe_g (ok_children T) hr pass0 (pa_cons (pv 0) (pa_cons (pv 1) pa_nil)))) (blkOk_by (N := N_subtrees) (sc := defScope st_subtrees) (by decide +kernel))
      (fun _ _ _ _ _ => pg_name (i := 2) sc_subtrees.nd rfl (.inl rfl)) (fun _ _ _ _ _ => pts_nil) (fun _ _ _ _ _ => pe_g (E := E00) (ok_subtree T) hr pass0 (pa_cons (pv 0) (pa_cons (pv 2) pa_nil))))), ?_⟩
    refine ⟨_, rfl, _, rfl, p, rs, v, rfl, G, ok, pg, fun l H2 hl e2 h2 => ⟨l, true, _, rfl, Sk.l h2, fun J S D hD => ?_⟩⟩
    have hk60 := kids_len ok (toPar v)
    refine lc_by (sVs (kidsP rs v)).length (fun i H' => Ex H2 H' ∧ ∃ ws, H' D = some (.lst ws) ∧ ListsAt (del H' D) ws (((kidsP rs v).take i).map (FM.sub rs))) ⟨Ex.new hD, [], upd_same, trivial⟩ (fun i H' hi hP => S.go i H' (Sk.l (hP.1 _ _ h2)) hi) (fun H' hP => S.stop H' (Sk.l (hP.1 _ _ h2))) (fun i x H' H'' hi hP hy => ?_) fun H' hP => ?_
    · obtain ⟨e0, hx⟩ := S.yld i H' x H'' (Sk.l (hP.1 _ _ h2)) hy
      subst e0
      obtain ⟨e3, ws, hw, hL⟩ := hP
      rw [sVs_len] at hi
      have hki : (kidsP rs v)[i]? = some (kidsP rs v)[i] := List.getElem?_eq_getElem hi
      generalize (kidsP rs v)[i] = m at hki
      have hx' : x = .str m := by
        have : (List.map V.str (kidsP rs v))[i]? = some x := hx
        rw [List.getElem?_map, hki] at this
        exact (Option.some.inj this).symm
      subst hx'
      have hm : m ∈ FM.names rs := FM.kids_mem (List.mem_of_getElem? hki)
      refine ⟨rfl, _, rfl, _, rfl, p, rs, m, rfl, G.mono (e2.trans e3), ok, hm, fun l2 vs2 H5 hl2 e5 h5 hR5 => ?_⟩
      have hne : l2 ≠ D := Ne.symm (ne_of_none hw hl2)
      refine ⟨ws, e5 _ _ hw, szLt (by rw [hL.len, List.length_map, List.length_take]; exact Nat.lt_of_le_of_lt (Nat.min_le_right _ _) (Nat.lt_of_le_of_lt hk60 (by decide))), (e3.trans e5).mut hD, _, upd_same, ?_⟩
      rw [del_upd, take_snoc hki, List.map_append]
      exact (hL.mono (del_ex e5)).snoc (ListAt.del (e5 _ _ hw) h5 hne hR5)
    · obtain ⟨e3, ws, hw, hL⟩ := hP
      rw [sVs_len, List.take_length] at hL
      exact q D ws H' (Evl.fresh_back e2 hD) (e2.trans e3) hw (hL.mono ex_del)
end
end K13
end
section
set_option Elab.async false
set_option linter.all false
set_option maxRecDepth 100000
set_option maxHeartbeats 4000000
namespace K13
open PySem PySem.Spec PyProof.Rows L2
open Evl (Ex)
/-! ## t + u of tuples, t empty -/
theorem k13_cat0 {prog : Program} {w : World} {A : Around} {E : Value → Shared → Prop} {s : Shared} {t b : Addr} {ws : List Value} {Q : Value → Shared → Prop} (ht : IsTup s.heap t ([] : List Value).toArray) (hb : IsTup s.heap b ws.toArray)
    (h : Q (.ref b) s) : wpAny (model prog w) A (binaryOp .Add (.ref t) (.ref b)) Q E s := by
  obtain ⟨⟨cls, dd, data, sl⟩, ho, hc, n, hd⟩ := id ht
  obtain ⟨⟨cls2, dd2, data2, sl2⟩, ho2, hc2, n2, hd2⟩ := id hb
  simp only at hc hd hc2 hd2
  subst hc hd hc2 hd2
  exact concat_meets ⟨_, ho, rfl⟩ ⟨_, ho2, rfl⟩ noFill_tuple_add seq_tuple_add PySem.F.slot_tuple_add PySem.F.entry_tuple_add (PySem.F.args_tuple_add_2 _ _)
    (tuple_addW0 t b ([] : List Value).toArray ws.toArray n n2 dd dd2 sl sl2 (by simp)) ⟨ho, ho2, h⟩
def rCat0 (K : PySem.W.Frag) : R2 := fun x y H Q => ∃ a b ys, x = .ref a ∧ y = .ref b ∧ SqT K H a [] ∧ SqT K H b ys ∧ Q (.ref b) H
theorem op_cat0 {X : Cx} : OpR X (binaryOp .Add) (rCat0 X.K) := by
  intro pins s σ H x y v u Q I rx ry h
  obtain ⟨a, b, ys, rfl, rfl, ha, hb, q⟩ := h
  cases rx
  cases ry
  obtain ⟨its, r1, p1, _⟩ := I.tuple ha
  obtain ⟨its2, r2, p2, _⟩ := I.tuple hb
  cases r1
  exact k13_cat0 p1 p2 ⟨.ref b, H, I, rfl, q⟩
theorem cat_any {K : PySem.W.Frag} {H : Hp} {a b : Addr} {xs ys : List V} {Q : VK} (ha : H a = some (.tup xs)) (hb : H b = some (.tup ys)) (hz : xs.length + ys.length ≤ 1000) (q : ∀ p H', Ex H H' → H' p = some (.tup (xs ++ ys)) → Q (.ref p) H') :
    rCatT K (.ref a) (.ref b) H Q ∨ rCat0 K (.ref a) (.ref b) H Q := by
  cases xs with
  | nil => exact .inr ⟨a, b, ys, rfl, rfl, SqT.of ha, SqT.of hb, q b H (Ex.refl _) hb⟩
  | cons x xs =>
    refine .inl ⟨a, b, _, ys, rfl, rfl, SqT.of ha, SqT.of hb, (by intro z; cases z), szOf (by omega), fun e => q a H (Ex.refl _) ?_, fun _ p hp => q p _ (Ex.new hp) upd_same⟩
    rw [e, List.append_nil]; exact ha
theorem cat_l {H : Hp} {a b : Addr} {xs ys : List V} {Q : VK} (ha : H a = some (.lst xs)) (hb : H b = some (.lst ys)) (hz : xs.length + ys.length ≤ 3000) (q : ∀ p, H p = none → Q (.ref p) (upd H p (.lst (xs ++ ys)))) : rCat (.ref a) (.ref b) H Q :=
  ⟨a, b, xs, ys, rfl, rfl, ha, hb, szOf (by omega), q⟩
theorem flat_bound {ts : List (FM.Rows Str)} {i j : Nat} {t : FM.Rows Str} (h : ts[i]? = some t) : ((ts.take i).flatten ++ t.take j).length ≤ ts.flatten.length := by
  have e : ts = ts.take i ++ t :: ts.drop (i + 1) := by rw [← drop_at h, List.take_append_drop]
  have e2 : ts.flatten.length = (ts.take i).flatten.length + (t.length + (ts.drop (i + 1)).flatten.length) := by
    conv => lhs; rw [e]
    rw [List.flatten_append, List.flatten_cons, List.length_append, List.length_append]
  rw [e2, List.length_append, List.length_take]
  have := Nat.min_le_right j t.length
  omega
theorem flat_snoc {ts : List (FM.Rows Str)} {i : Nat} {t : FM.Rows Str} (h : ts[i]? = some t) : (ts.take (i + 1)).flatten = (ts.take i).flatten ++ t := by
  rw [take_snoc h, List.flatten_append]
  simp
def spWith (K : PySem.W.Frag) : Sp := fun vs H Q _ => ∃ p rs v a xs ts, vs = [.ref p, v, .ref a] ∧ ForestAt K H p rs ∧ Okf rs ∧ parGood rs v ∧ H a = some (.lst xs) ∧ ListsAt H xs ts ∧ ts.flatten.length ≤ 500 ∧ NewR (FM.withTrees rs (toPar v) ts) H Q
section
variable {P : Program} {w : World} {K : PySem.W.Frag} {mg : Str → Option Value} {base : Heap}
theorem ok_with_subtrees (T : Tx K mg) : GFn P w K mg base "with_subtrees" CX0 5 ["forest", "parent", "trees"] (spWith K) := by
  obtain ⟨fd, F⟩ := T.d_with_subtrees
  refine gfn T.g_with_subtrees F (F.bindsN fun _ _ _ _ _ _ us hl => match us, hl with | [_, _, _], _ => rfl) (ok0 F sc_with_subtrees (fun vs H Q E h => ?_) fun cdv A outer s H vs Q E hr h => ?_)
  · obtain ⟨p, rs, v, a, xs, ts, rfl, _⟩ := h; rfl
  · obtain ⟨p, rs, v, a, xs, ts, rfl, G, ok, ⟨ev, hn⟩, ha, hL, hz, q⟩ := h
    refine ⟨_, pss_cons (ps_if (pt_cmpR op_isN (pv 1) pe_non (nomark _)) (pss_one (ps_ret (pe_lc2 (own := [("rows", 6), ("row", 7)]) (vs1 := [7]) (g := gName 6) (tt := tYes) (wi1 := iSeqA (tVar 6)) (g1 := gName 7) (tt1 := tYes) rfl sc_with_subtrees.nd (pi_seqA (pv 2)) (blkOk_by (N := N_with_subtrees) (sc := defScope st_with_subtrees) (by decide +kernel)) (by decide)
        (fun _ _ _ _ _ => pg_name (i := 6) sc_with_subtrees.nd rfl (.inl rfl)) (fun _ _ _ _ _ => pts_nil) (fun _ _ _ _ _ => pi_seqA (pv 6)) (fun _ _ _ _ _ => pg_name (i := 7) sc_with_subtrees.nd rfl (.inl rfl)) (fun _ _ _ _ _ => pts_nil) (fun _ _ _ _ _ => pv 7)))) pss_nil)
      (pss_cons (ps_asg (pe_tup (pa_cons (pe_m T.cl_Forest (ok_place_of T) hr pass0 (pv 0) (pa_cons (pv 1) pa_nil)) (pa_cons (pe_m T.cl_Forest (ok_level_of T) hr pass0 (pv 0) (pa_cons (pv 1) pa_nil)) pa_nil))) (pg_tup rfl (pgs_cons (pg_name (i := 3) sc_with_subtrees.nd rfl (.inl rfl)) (pgs_cons (pg_name (i := 4) sc_with_subtrees.nd rfl (.inr rfl)) pgs_nil))))
      (Evl.pss_cut (ps_setLc2 (i := 5) (own := [("rows", 6), ("row", 7)]) (vs1 := [7]) (g := gName 6) (tt := tYes) (wi1 := iSeqA (tCall spRaised [] E00 (tCons (tVar 6) (tCons (tOp (rI0 fun i j => .int (i + j)) (tVar 4) (tC (.int 1))) tNil)))) (g1 := gName 7) (tt1 := tYes) rfl sc_with_subtrees.nd rfl rfl (sw_true rfl rfl rfl (by decide +kernel)) (pi_seqA (pv 2)) (blkOk_by (N := N_with_subtrees) (sc := defScope st_with_subtrees) (by decide +kernel)) (by decide)
        (fun _ _ _ _ _ => pg_name (i := 6) sc_with_subtrees.nd rfl (.inl rfl)) (fun _ _ _ _ _ => pts_nil) (fun _ _ _ _ _ => pi_seqA (pe_g (E := E00) (ok_raised T) hr pass0 (pa_cons (pv 6) (pa_cons (pe_op op_add (pv 4) pe_int) pa_nil)))) (fun _ _ _ _ _ => pg_name (i := 7) sc_with_subtrees.nd rfl (.inl rfl)) (fun _ _ _ _ _ => pts_nil) (fun _ _ _ _ _ => pv 7))
      (pss_cons (ps_set (i := 6) sc_with_subtrees.nd rfl (.inl rfl) (pe_callTy call_list_of rfl T.z_list b_list (pa_cons (pe_fld (pv 0) rfl) pa_nil)))
      (pss_one (ps_ret (pe_op op_cat (pe_op op_cat (pe_slice sl_list (pv 6) po_none (po_some (pe_op op_add (pv 3) pe_int))) (pv 5)) (pe_slice sl_list (pv 6) (po_some (pe_op op_add (pv 3) (pe_m T.cl_Forest (ok_size_of T) hr pass0 (pv 0) (pa_cons (pv 1) pa_nil)))) po_none))))))), ?_⟩
    have hxs := hL.len
    refine ⟨_, rfl, rfl, _, rfl, ?_⟩
    have q : NewR (FM.withTrees rs (toPar v) ts) H Q := q
    cases hv : toPar v with
    | none =>
      rw [hv] at q ev
      have ev : v = .non := ev
      subst ev
      refine iteT ⟨_, rfl, a, true, xs, rfl, Sk.l ha, fun J S D hD => ?_⟩
      refine lc2_by xs.length (fun i H' => Ex H H' ∧ ∃ ws, H' D = some (.lst ws) ∧ RowsAt H' ws (ts.take i).flatten) ⟨Ex.new hD, [], upd_same, trivial⟩ (fun i H' hi hP => S.go i H' (Sk.l (hP.1 _ _ ha)) hi) (fun H' hP => S.stop H' (Sk.l (hP.1 _ _ ha))) (fun i x H' H'' hi hP hy => ?_) fun H' hP => ?_
      · obtain ⟨e0, hx⟩ := S.yld i H' x H'' (Sk.l (hP.1 _ _ ha)) hy
        subst e0
        obtain ⟨e1, ws, hw, hRw⟩ := hP
        obtain ⟨t, ht, l, ys, rfl, hl, hR⟩ := hL.get hx
        refine ⟨rfl, _, rfl, l, true, ys, rfl, Sk.l (e1 _ _ hl), fun J1 S1 => ?_⟩
        refine in_by ys.length (fun j H' => Ex H H' ∧ ∃ ws, H' D = some (.lst ws) ∧ RowsAt H' ws ((ts.take i).flatten ++ t.take j)) ⟨e1, ws, hw, by rw [List.take_zero, List.append_nil]; exact hRw⟩ (fun j H' hj hP => S1.go j H' (Sk.l (hP.1 _ _ hl)) hj) (fun H' hP => S1.stop H' (Sk.l (hP.1 _ _ hl))) (fun j x H1 H2 hj hP hy => ?_) fun H' hP => ?_
        · obtain ⟨e0, hx1⟩ := S1.yld j H1 x H2 (Sk.l (hP.1 _ _ hl)) hy
          subst e0
          obtain ⟨e2, ws2, hw2, hR2⟩ := hP
          obtain ⟨r, hr', hrx⟩ := hR.get hx1
          refine ⟨rfl, _, rfl, ws2, hw2, szLt (by rw [hR2.len]; exact Nat.lt_of_le_of_lt (flat_bound ht) (by omega)), e2.mut hD, _, upd_same, ?_⟩
          rw [take_snoc hr', ← List.append_assoc]
          exact RowsAt.updL hw2 (hR2.snoc (hrx.mono e2))
        · obtain ⟨e2, ws2, hw2, hR2⟩ := hP
          refine ⟨e2, ws2, hw2, ?_⟩
          rw [hR.len, List.take_length] at hR2
          rw [flat_snoc ht]
          exact hR2
      · obtain ⟨e1, ws, hw, hRw⟩ := hP
        rw [hxs, List.take_length] at hRw
        exact q D ws H' hD e1 hw hRw
    | some n =>
      rw [hv] at q ev
      have ev : v = .str n := ev
      have hn1 := hn n hv
      subst ev
      refine iteF ?_
      refine rd_of G ok hn1 rfl rfl fun H1 e1 => rd_of (G.mono e1) ok hn1 rfl rfl fun H2 e12 => ⟨(by show 2 ≤ sizeLine; decide), fun t0 ht0 => ?_⟩
      have e3 : Ex H (upd H2 t0 (.tup [.int ((FM.pl rs n : Nat) : Int), .int (FM.lv rs n)])) := (e1.trans e12).trans (Ex.new ht0)
      refine ⟨t0, _, rfl, SqT.of upd_same, rfl, _, _, rfl, _, _, rfl, rfl, ?_⟩
      generalize (upd H2 t0 (.tup [.int ((FM.pl rs n : Nat) : Int), .int (FM.lv rs n)])) = H3 at e3
      refine ⟨fun σ H' => ∃ c ws, σ = [some (.ref p), some (.str n), some (.ref a), some (.int ((FM.pl rs n : Nat) : Int)), some (.int (FM.lv rs n)), some (.ref c), none, none] ∧ Ex H H' ∧ H' c = some (.lst ws) ∧ RowsAt H' ws (FM.lift (FM.lv rs n + 1) ts.flatten), ?_, ?_⟩
      · refine ⟨_, rfl, a, true, xs, rfl, Sk.l (e3 _ _ ha), fun J S D hD => ?_⟩
        refine lc2_by xs.length (fun i H' => Ex H3 H' ∧ ∃ ws, H' D = some (.lst ws) ∧ RowsAt H' ws (FM.lift (FM.lv rs n + 1) (ts.take i).flatten)) ⟨Ex.new hD, [], upd_same, trivial⟩ (fun i H' hi hP => S.go i H' (Sk.l ((e3.trans hP.1) _ _ ha)) hi) (fun H' hP => S.stop H' (Sk.l ((e3.trans hP.1) _ _ ha))) (fun i x H' H'' hi hP hy => ?_) fun H' hP => ?_
        · obtain ⟨e0, hx⟩ := S.yld i H' x H'' (Sk.l ((e3.trans hP.1) _ _ ha)) hy
          subst e0
          obtain ⟨e4, ws, hw, hRw⟩ := hP
          have e34 := e3.trans e4
          obtain ⟨t, ht, l, ys, rfl, hl, hR⟩ := hL.get hx
          have htl : t.length ≤ 1000 := by
            have := flat_bound (j := t.length) ht
            rw [List.length_append, List.take_length] at this
            omega
          refine ⟨rfl, _, rfl, _, rfl, _, _, rfl, rfl, true, l, ys, t, _, rfl, Sk.l (e34 _ _ hl), hR.mono e34, htl, fun l2 ys2 H5 hl2 e45 h5 hR5 => ?_⟩
          have hD5 := e45 _ _ hw
          refine ⟨l2, true, ys2, rfl, Sk.l h5, fun J1 S1 => ?_⟩
          have hne : l2 ≠ D := Ne.symm (ne_of_none hw hl2)
          refine in_by ys2.length (fun j H' => Ex H3 H' ∧ Ex (del H5 D) (del H' D) ∧ ∃ ws, H' D = some (.lst ws) ∧ RowsAt H' ws (FM.lift (FM.lv rs n + 1) ((ts.take i).flatten ++ t.take j))) ⟨e4.trans e45, Ex.refl _, ws, hD5, by rw [List.take_zero, List.append_nil]; exact hRw.mono e45⟩
            (fun j H' hj hP => S1.go j H' (Sk.l (by have := hP.2.1 l2 _ (by rw [del_ne hne]; exact h5); rw [del_ne hne] at this; exact this)) hj) (fun H' hP => S1.stop H' (Sk.l (by have := hP.2.1 l2 _ (by rw [del_ne hne]; exact h5); rw [del_ne hne] at this; exact this))) (fun j x H6 H7 hj hP hy => ?_) fun H' hP => ?_
          · have h62 : H6 l2 = some (.lst ys2) := by have := hP.2.1 l2 _ (by rw [del_ne hne]; exact h5); rw [del_ne hne] at this; exact this
            obtain ⟨e0, hx1⟩ := S1.yld j H6 x H7 (Sk.l h62) hy
            subst e0
            obtain ⟨e6, e56, ws2, hw2, hR2⟩ := hP
            obtain ⟨r, hr', hrx⟩ := hR5.get hx1
            have hr0 : t[j]? = some ⟨r.n, r.v, r.l - (FM.lv rs n + 1)⟩ := by
              unfold FM.lift at hr'
              rw [List.getElem?_map] at hr'
              obtain ⟨r0, h0, rfl⟩ := Option.map_eq_some_iff.mp hr'
              rw [h0]
              congr 1
              obtain ⟨a1, a2, a3⟩ := r0
              show (⟨a1, a2, a3⟩ : R) = ⟨a1, a2, a3 + (FM.lv rs n + 1) - (FM.lv rs n + 1)⟩
              congr 1
              omega
            have hrx6 : RowAt H7 x r := by
              obtain ⟨qq, eq, hq⟩ := hrx
              have n2 : qq ≠ D := ne_of hq hD5 (by intro z; cases z)
              have := e56 qq _ (by rw [del_ne n2]; exact hq)
              rw [del_ne n2] at this
              exact ⟨qq, eq, this⟩
            refine ⟨rfl, _, rfl, ws2, hw2, szLt (by rw [hR2.len, lift_len]; exact Nat.lt_of_le_of_lt (flat_bound ht) (by omega)), e6.mut hD, by rw [del_upd]; exact e56, _, upd_same, ?_⟩
            rw [take_snoc hr0, ← List.append_assoc, FM.lift_app]
            refine RowsAt.updL hw2 (hR2.snoc ?_)
            show RowAt _ _ ⟨r.n, r.v, r.l - (FM.lv rs n + 1) + (FM.lv rs n + 1)⟩
            rw [show r.l - (FM.lv rs n + 1) + (FM.lv rs n + 1) = r.l by omega]
            exact hrx6
          · obtain ⟨e6, e56, ws2, hw2, hR2⟩ := hP
            refine ⟨e6, ws2, hw2, ?_⟩
            rw [hR5.len, lift_len, List.take_length] at hR2
            rw [flat_snoc ht]
            exact hR2
        · obtain ⟨e4, ws, hw, hRw⟩ := hP
          rw [hxs, List.take_length] at hRw
          exact ⟨D, ws, rfl, e3.trans e4, hw, hRw⟩
      · rintro σ H4 ⟨c, ws, rfl, e4, hc, hRc⟩
        obtain ⟨dx, r, o, d, zs, kvs, Fo⟩ := G.mono e4
        have hzs := Fo.at_.len
        have h60 := ok.len
        refine ⟨_, rfl, p, _, dx, _, _, rfl, Fo.ins, T.cl_Forest, T.no_Forest_rows, ff_rows, r, _, rfl, .inr (SqT.of Fo.rows), fun m hm => ?_⟩
        have e5 := e4.trans (Ex.new (o := .lst zs) hm)
        have hm5 : upd H4 m (.lst zs) m = some (.lst zs) := upd_same
        have hc5 : upd H4 m (.lst zs) c = some (.lst ws) := Ex.new hm _ _ hc
        have hR5 : RowsAt (upd H4 m (.lst zs)) zs rs := Fo.at_.mono (Ex.new hm)
        have hRc5 := hRc.mono (Ex.new (o := .lst zs) hm)
        generalize upd H4 m (.lst zs) = H5 at e5 hm5 hc5 hR5 hRc5
        refine ⟨_, rfl, _, rfl, _, _, rfl, rfl, _, rfl, m, zs, rfl, SqL.of hm5, fun m2 hm2 => ⟨_, rfl, ?_⟩⟩
        rw [show ((FM.pl rs n : Nat) : Int) + 1 = ((FM.pl rs n + 1 : Nat) : Int) by omega, cut_take]
        have e6 := Ex.new (o := .lst (zs.take (FM.pl rs n + 1))) hm2
        have hL1 := lift_len (d := FM.lv rs n + 1) (rs := ts.flatten)
        have hL2 := hRc5.len
        refine cat_l upd_same (e6 _ _ hc5) (by rw [List.length_take]; omega) fun m3 hm3 => ?_
        have e7 := e6.trans (Ex.new (o := .lst (zs.take (FM.pl rs n + 1) ++ ws)) hm3)
        have h73 : upd (upd H5 m2 (.lst (zs.take (FM.pl rs n + 1)))) m3 (.lst (zs.take (FM.pl rs n + 1) ++ ws)) m3 = some (.lst (zs.take (FM.pl rs n + 1) ++ ws)) := upd_same
        generalize upd (upd H5 m2 (.lst (zs.take (FM.pl rs n + 1)))) m3 (.lst (zs.take (FM.pl rs n + 1) ++ ws)) = H7 at e7 h73
        refine ⟨_, rfl, _, rfl, rd_of (G.mono (e5.trans e7)) ok hn1 rfl rfl fun H8 e78 => ⟨_, _, rfl, rfl, _, rfl, ?_⟩⟩
        refine ⟨m, zs, rfl, SqL.of ((e7.trans e78) _ _ hm5), fun m4 hm4 => ?_⟩
        rw [show ((FM.pl rs n : Nat) : Int) + ((FM.sizeN rs n : Nat) : Int) = ((FM.pl rs n + FM.sizeN rs n : Nat) : Int) by omega, cut_drop]
        have e9 := e78.trans (Ex.new (o := .lst (zs.drop (FM.pl rs n + FM.sizeN rs n))) hm4)
        refine cat_l (e9 _ _ h73) upd_same (by rw [List.length_append, List.length_take, List.length_drop]; omega) fun m5 hm5' => ?_
        have e10 := (e7.trans e9).trans (Ex.new (o := .lst (zs.take (FM.pl rs n + 1) ++ ws ++ zs.drop (FM.pl rs n + FM.sizeN rs n))) hm5')
        refine q m5 _ _ (Evl.fresh_back (e5.trans (e7.trans e9)) hm5') (e5.trans e10) upd_same ?_
        show RowsAt _ _ (rs.take (FM.pl rs n + 1) ++ (ts.map (FM.lift (FM.lv rs n + 1))).flatten ++ rs.drop (FM.pl rs n + FM.sizeN rs n))
        rw [← FM.lift_flatten]
        exact (((hR5.take _).app hRc5).app (hR5.drop _)).mono e10
end
end K13
end
section
set_option Elab.async false
set_option linter.all false
set_option maxRecDepth 100000
set_option maxHeartbeats 4000000
namespace K13
open PySem PySem.Spec PyProof.Rows L2
open Evl (Ex)
theorem mk_forest {K : PySem.W.Frag} {H : Hp} {b : Bool} {a : Addr} {xs : List V} {rs : FM.Rows Str} {Q : VK} {E : XK} (h : Sk b H a xs) (hR : RowsAt H xs rs) (ok : Okf rs) (q : NewF K rs H Q) :
    ∀ x dx, H x = none → H dx = none → dx ≠ x → spInit K (.ref x :: ([.ref a] ++ [])) (upd (upd H dx (.own x)) x (.ins (CF K) dx [])) (fun v H2 => v = .non ∧ Q (.ref x) H2) E := fun x dx hx hd hne => by
  have e : Ex H (upd (upd H dx (.own x)) x (.ins (CF K) dx [])) := new_ex hx hd
  refine ⟨x, dx, b, a, xs, rs, rfl, upd_same, e _ _ h, hR.mono e, ok, fun H' hb hF => ⟨rfl, q x H' hx (fun b' o ho => ?_) hF⟩⟩
  exact hb b' o (ne_of_none ho hx) (e _ _ ho)
theorem cut_td {xs : List V} {n m : Nat} : cutV xs (some (n : Int)) (some (m : Int)) = (xs.take m).drop n := by
  unfold cutV
  rw [HT.sIx_nat, HT.sIx_nat, List.drop_take]
  rcases Nat.le_total n xs.length with h | h
  · rw [Nat.min_eq_left h]
    rcases Nat.le_total m xs.length with h2 | h2
    · rw [Nat.min_eq_left h2]
    · rw [Nat.min_eq_right h2, List.take_of_length_le (by rw [List.length_drop]; exact Nat.le_refl _), List.take_of_length_le (by rw [List.length_drop]; omega)]
  · rw [Nat.min_eq_right h, List.drop_length, List.drop_of_length_le h]
    simp
theorem ff_get {K : PySem.W.Frag} {H : Hp} {p : Addr} {rs : FM.Rows Str} (G : ForestAt K H p rs) : ∃ dx r o d xs, H p = some (.ins (CF K) dx (ff r o d)) ∧ H r = some (.tup xs) ∧ RowsAt H xs rs := by
  obtain ⟨dx, r, o, d, xs, kvs, F⟩ := G
  exact ⟨dx, r, o, d, xs, F.ins, F.rows, F.at_⟩
def spOut (K : PySem.W.Frag) : Sp := fun vs H Q _ => ∃ p rs n, vs = [.ref p, .str n] ∧ ForestAt K H p rs ∧ Okf rs ∧ n ∈ FM.names rs ∧ Okf (FM.without rs n) ∧ NewF K (FM.without rs n) H Q
def spPutU (K : PySem.W.Frag) : Sp := fun vs H Q _ => ∃ p rs v r a ws t, vs = [.ref p, v, .int ((r : Nat) : Int), .ref a] ∧ ForestAt K H p rs ∧ Okf rs ∧ parGood rs v ∧ H a = some (.lst ws) ∧ RowsAt H ws t ∧ t.length ≤ 100 ∧ Okf (FM.putUnder rs (toPar v) r t) ∧ NewF K (FM.putUnder rs (toPar v) r t) H Q
def spLifted (K : PySem.W.Frag) : Sp := fun vs H Q _ => ∃ p rs n, vs = [.ref p, .str n] ∧ ForestAt K H p rs ∧ Okf rs ∧ n ∈ FM.names rs ∧ Okf (FM.lifted rs n) ∧ NewF K (FM.lifted rs n) H Q
section
variable {P : Program} {w : World} {K : PySem.W.Frag} {mg : Str → Option Value} {base : Heap}
theorem ok_without (T : Tx K mg) : GFn P w K mg base "without_subtree" CX0 6 ["forest", "name"] (spOut K) := by
  obtain ⟨fd, F⟩ := T.d_without_subtree
  refine gfn T.g_without_subtree F (F.bindsN fun _ _ _ _ _ _ us hl => match us, hl with | [_, _], _ => rfl) (ok0 F sc_without_subtree (fun vs H Q E h => ?_) fun cdv A outer s H vs Q E hr h => ?_)
  · obtain ⟨p, rs, n, rfl, _⟩ := h; rfl
  · obtain ⟨p, rs, n, rfl, G, ok, hn, okw, q⟩ := h
    refine ⟨_, pss_cons (ps_set (i := 2) sc_without_subtree.nd rfl (.inl rfl) (pe_m T.cl_Forest (ok_place_of T) hr pass0 (pv 0) (pa_cons (pv 1) pa_nil)))
      (pss_one (ps_ret (pe_k (ok_Forest_init T) hr pass0 (pa_cons (pe_op (op_catT.or op_cat0) (pe_slice sl_tupA (pe_fld (pv 0) rfl) po_none (po_some (pv 2))) (pe_slice sl_tupA (pe_fld (pv 0) rfl) (po_some (pe_op op_add (pv 2) (pe_m T.cl_Forest (ok_size_of T) hr pass0 (pv 0) (pa_cons (pv 1) pa_nil)))) po_none)) pa_nil)))), ?_⟩
    refine rd_of G ok hn rfl rfl fun H1 e1 => ?_
    obtain ⟨dx, r, o, d, xs, hp, hr1, hR⟩ := ff_get (G.mono e1)
    have hlen := hR.len
    have h60 := ok.len
    refine ⟨_, rfl, p, _, dx, _, _, rfl, hp, T.cl_Forest, T.no_Forest_rows, ff_rows, _, rfl, _, rfl, cut_any hr1 fun c1 H2 e12 h2 => ?_⟩
    rw [cut_take] at h2
    refine ⟨_, rfl, p, _, dx, _, _, rfl, e12 _ _ hp, T.cl_Forest, T.no_Forest_rows, ff_rows, _, rfl, rd_of (G.mono (e1.trans e12)) ok hn rfl rfl fun H3 e23 => ⟨_, _, rfl, rfl, _, rfl, ?_⟩⟩
    dsimp only [tNoPart]
    refine cut_any ((e12.trans e23) _ _ hr1) fun c2 H4 e34 h4 => ?_
    rw [show ((FM.pl rs n : Nat) : Int) + ((FM.sizeN rs n : Nat) : Int) = ((FM.pl rs n + FM.sizeN rs n : Nat) : Int) by omega, cut_drop] at h4
    refine cat_any ((e23.trans e34) _ _ h2) h4 (by rw [List.length_take, List.length_drop]; omega) fun c3 H5 e45 h5 => ?_
    have e15 := ((e12.trans e23).trans e34).trans e45
    refine mk_forest (Sk.t h5) (((hR.take _).app (hR.drop _)).mono e15) okw fun x H6 hx e56 hF => q x H6 (Evl.fresh_back (e1.trans e15) hx) ((e1.trans e15).trans e56) hF
theorem ok_put_under (T : Tx K mg) : GFn P w K mg base "put_under" CX0 7 ["forest", "parent", "rank", "rows"] (spPutU K) := by
  obtain ⟨fd, F⟩ := T.d_put_under
  refine gfn T.g_put_under F (F.bindsN fun _ _ _ _ _ _ us hl => match us, hl with | [_, _, _, _], _ => rfl) (ok0 F sc_put_under (fun vs H Q E h => ?_) fun cdv A outer s H vs Q E hr h => ?_)
  · obtain ⟨p, rs, v, r, a, ws, t, rfl, _⟩ := h; rfl
  · obtain ⟨p, rs, v, r, a, ws, t, rfl, G, ok, pg, ha, hRt, ht, okp, q⟩ := h
    refine ⟨_, pss_cons (ps_set (i := 4) sc_put_under.nd rfl (.inl rfl) (pe_g (ok_subtrees T) hr pass0 (pa_cons (pv 0) (pa_cons (pv 1) pa_nil))))
      (pss_one (ps_ret (pe_k (ok_Forest_init T) hr pass0 (pa_cons (pe_g (ok_with_subtrees T) hr pass0 (pa_cons (pv 0) (pa_cons (pv 1) (pa_cons (pe_op op_cat (pe_op op_cat (pe_slice sl_list (pv 4) po_none (po_some (pv 2))) (pe_lst (pa_cons (pv 3) pa_nil))) (pe_slice sl_list (pv 4) (po_some (pv 2)) po_none)) pa_nil)))) pa_nil)))), ?_⟩
    have hT := trees_len ok pg.2
    refine ⟨_, rfl, _, rfl, p, rs, v, rfl, G, ok, pg, fun l ls H1 hl e1 h1 hL => ?_⟩
    have hlen := hL.len
    refine ⟨_, rfl, _, rfl, _, rfl, _, rfl, _, rfl, l, ls, rfl, SqL.of h1, fun c1 hc1 => ?_⟩
    rw [cut_take]
    refine ⟨_, rfl, (by show 1 ≤ sizeLine; decide), fun c2 hc2 => ?_⟩
    have e12 := Ex.new (o := .lst (ls.take r)) hc1
    have e23 := Ex.new (o := .lst [.ref a]) hc2
    refine cat_l (e23 _ _ upd_same) upd_same (by rw [List.length_take]; show _ + 1 ≤ _; omega) fun c3 hc3 => ?_
    have e34 := Ex.new (o := .lst (ls.take r ++ [.ref a])) hc3
    have e14 := (e12.trans e23).trans e34
    have h43 : upd (upd (upd H1 c1 (.lst (ls.take r))) c2 (.lst [.ref a])) c3 (.lst (ls.take r ++ [.ref a])) c3 = some (.lst (ls.take r ++ [.ref a])) := upd_same
    generalize upd (upd (upd H1 c1 (.lst (ls.take r))) c2 (.lst [.ref a])) c3 (.lst (ls.take r ++ [.ref a])) = H4 at e14 h43
    refine ⟨_, rfl, _, rfl, _, rfl, l, ls, rfl, SqL.of (e14 _ _ h1), fun c4 hc4 => ?_⟩
    rw [cut_drop]
    have e45 := Ex.new (o := .lst (ls.drop r)) hc4
    refine cat_l (e45 _ _ h43) upd_same (by rw [List.length_append, List.length_take, List.length_drop]; show _ + 1 + _ ≤ _; omega) fun c5 hc5 => ?_
    have e56 := Ex.new (o := .lst (ls.take r ++ [.ref a] ++ ls.drop r)) hc5
    have e16 := (e14.trans e45).trans e56
    have h65 : upd (upd H4 c4 (.lst (ls.drop r))) c5 (.lst (ls.take r ++ [.ref a] ++ ls.drop r)) c5 = some (.lst (ls.take r ++ [.ref a] ++ ls.drop r)) := upd_same
    generalize upd (upd H4 c4 (.lst (ls.drop r))) c5 (.lst (ls.take r ++ [.ref a] ++ ls.drop r)) = H6 at e16 h65
    have e6 := e1.trans e16
    have hA : ListAt H6 (.ref a) t := ⟨a, ws, rfl, e6 _ _ ha, hRt.mono e6⟩
    have hL6 : ListsAt H6 (ls.take r ++ [.ref a] ++ ls.drop r) ((FM.trees rs (toPar v)).take r ++ [t] ++ (FM.trees rs (toPar v)).drop r) := (((hL.take r).mono e16).app (ws := [.ref a]) (us := [t]) ⟨hA, trivial⟩).app ((hL.drop r).mono e16)
    have hb : ((FM.trees rs (toPar v)).take r ++ [t] ++ (FM.trees rs (toPar v)).drop r).flatten.length ≤ 500 := by
      have e : (FM.trees rs (toPar v)).flatten.length = ((FM.trees rs (toPar v)).take r).flatten.length + ((FM.trees rs (toPar v)).drop r).flatten.length := by
        conv => lhs; rw [← List.take_append_drop r (FM.trees rs (toPar v))]
        rw [List.flatten_append, List.length_append]
      rw [List.flatten_append, List.flatten_append, List.length_append, List.length_append]
      have e2 : ([t] : List (FM.Rows Str)).flatten = t := by simp
      rw [e2]
      omega
    refine ⟨p, rs, v, c5, _, _, rfl, G.mono e6, ok, pg, h65, hL6, hb, fun l7 vs7 H7 hl7 e67 h7 hR7 => ?_⟩
    exact mk_forest (Sk.l h7) hR7 okp fun x H8 hx e78 hF => q x H8 (Evl.fresh_back (e6.trans e67) hx) ((e6.trans e67).trans e78) hF
theorem ok_lifted (T : Tx K mg) : GFn P w K mg base "lifted" CX0 6 ["forest", "name"] (spLifted K) := by
  obtain ⟨fd, F⟩ := T.d_lifted
  refine gfn T.g_lifted F (F.bindsN fun _ _ _ _ _ _ us hl => match us, hl with | [_, _], _ => rfl) (ok0 F sc_lifted (fun vs H Q E h => ?_) fun cdv A outer s H vs Q E hr h => ?_)
  · obtain ⟨p, rs, n, rfl, _⟩ := h; rfl
  · obtain ⟨p, rs, n, rfl, G, ok, hn, okw, q⟩ := h
    refine ⟨_, pss_cons (ps_par3 (i := 2) (j := 3) (l := 4) rfl sc_lifted.nd rfl rfl rfl (by decide) (by decide) (by decide) rfl rfl rfl (pa_cons (pe_m T.cl_Forest (ok_place_of T) hr pass0 (pv 0) (pa_cons (pv 1) pa_nil)) (pa_cons (pe_m T.cl_Forest (ok_size_of T) hr pass0 (pv 0) (pa_cons (pv 1) pa_nil)) (pa_cons (pe_callTy call_list_of rfl T.z_list b_list (pa_cons (pe_fld (pv 0) rfl) pa_nil)) pa_nil))) (by rfl))
      (pss_one (ps_ret (pe_k (ok_Forest_init T) hr pass0 (pa_cons (pe_op op_cat (pe_op op_cat (pe_slice sl_list (pv 4) po_none (po_some (pv 2))) (pe_g (ok_raised T) hr pass0 (pa_cons (pe_slice sl_list (pv 4) (po_some (pe_op op_add (pv 2) pe_int)) (po_some (pe_op op_add (pv 2) (pv 3)))) (pa_cons (pe_un un_neg pe_int) pa_nil)))) (pe_slice sl_list (pv 4) (po_some (pe_op op_add (pv 2) (pv 3))) po_none)) pa_nil)))), ?_⟩
    refine rd_of G ok hn rfl rfl fun H1 e1 => rd_of (G.mono e1) ok hn rfl rfl fun H2 e12 => ?_
    have e2 := e1.trans e12
    obtain ⟨dx, r, o, d, xs, hp, hr1, hR⟩ := ff_get (G.mono e2)
    have hlen := hR.len
    have h60 := ok.len
    refine ⟨_, rfl, p, _, dx, _, _, rfl, hp, T.cl_Forest, T.no_Forest_rows, ff_rows, r, _, rfl, .inr (SqT.of hr1), fun l hl => ⟨_, _, _, rfl, ?_⟩⟩
    have e23 := Ex.new (o := .lst xs) hl
    have h3 : upd H2 l (.lst xs) l = some (.lst xs) := upd_same
    have hR3 := hR.mono e23
    generalize upd H2 l (.lst xs) = H3 at e23 h3 hR3
    have e3 := e2.trans e23
    refine ⟨_, rfl, _, rfl, _, rfl, l, xs, rfl, SqL.of h3, fun c1 hc1 => ?_⟩
    rw [cut_take]
    have e34 := Ex.new (o := .lst (xs.take (FM.pl rs n))) hc1
    have h4 : upd H3 c1 (.lst (xs.take (FM.pl rs n))) c1 = some (.lst (xs.take (FM.pl rs n))) := upd_same
    generalize upd H3 c1 (.lst (xs.take (FM.pl rs n))) = H4 at e34 h4
    refine ⟨_, rfl, _, rfl, _, _, rfl, rfl, _, rfl, _, rfl, _, rfl, _, _, rfl, rfl, _, rfl, l, xs, rfl, SqL.of (e34 _ _ h3), fun c2 hc2 => ?_⟩
    rw [show ((FM.pl rs n : Nat) : Int) + 1 = ((FM.pl rs n + 1 : Nat) : Int) by omega, show ((FM.pl rs n : Nat) : Int) + ((FM.sizeN rs n : Nat) : Int) = ((FM.pl rs n + FM.sizeN rs n : Nat) : Int) by omega, cut_td]
    have e45 := Ex.new (o := .lst ((xs.take (FM.pl rs n + FM.sizeN rs n)).drop (FM.pl rs n + 1))) hc2
    have h5 : upd H4 c2 (.lst ((xs.take (FM.pl rs n + FM.sizeN rs n)).drop (FM.pl rs n + 1))) c2 = some (.lst ((xs.take (FM.pl rs n + FM.sizeN rs n)).drop (FM.pl rs n + 1))) := upd_same
    generalize upd H4 c2 (.lst ((xs.take (FM.pl rs n + FM.sizeN rs n)).drop (FM.pl rs n + 1))) = H5 at e45 h5
    have e35 := e34.trans e45
    refine ⟨_, rfl, true, c2, _, (rs.take (FM.pl rs n + FM.sizeN rs n)).drop (FM.pl rs n + 1), _, rfl, Sk.l h5, ((hR3.take _).drop _).mono e35, (by rw [List.length_drop, List.length_take]; omega), fun c3 ws H6 hc3 e56 h6 hR6 => ?_⟩
    have hl6 := hR6.len
    rw [lift_len, List.length_drop, List.length_take] at hl6
    refine cat_l ((e45.trans e56) _ _ h4) h6 (by rw [List.length_take]; omega) fun c4 hc4 => ?_
    have e67 := Ex.new (o := .lst (xs.take (FM.pl rs n) ++ ws)) hc4
    have h7 : upd H6 c4 (.lst (xs.take (FM.pl rs n) ++ ws)) c4 = some (.lst (xs.take (FM.pl rs n) ++ ws)) := upd_same
    generalize upd H6 c4 (.lst (xs.take (FM.pl rs n) ++ ws)) = H7 at e67 h7
    have e37 := (e35.trans e56).trans e67
    refine ⟨_, rfl, _, rfl, _, rfl, _, _, rfl, rfl, _, rfl, l, xs, rfl, SqL.of (e37 _ _ h3), fun c5 hc5 => ?_⟩
    rw [show ((FM.pl rs n : Nat) : Int) + ((FM.sizeN rs n : Nat) : Int) = ((FM.pl rs n + FM.sizeN rs n : Nat) : Int) by omega, cut_drop]
    have e78 := Ex.new (o := .lst (xs.drop (FM.pl rs n + FM.sizeN rs n))) hc5
    refine cat_l (e78 _ _ h7) upd_same (by rw [List.length_append, List.length_take, List.length_drop]; omega) fun c6 hc6 => ?_
    have e89 := Ex.new (o := .lst (xs.take (FM.pl rs n) ++ ws ++ xs.drop (FM.pl rs n + FM.sizeN rs n))) hc6
    have e39 := e37.trans (e78.trans e89)
    refine mk_forest (Sk.l upd_same) (rs := FM.lifted rs n) ?_ okw fun x H8 hx e9 hF => q x H8 (Evl.fresh_back (e3.trans e39) hx) ((e3.trans e39).trans e9) hF
    exact (((hR3.take _).mono e39).app (hR6.mono (e67.trans (e78.trans e89)))).app ((hR3.drop _).mono e39)
end
end K13
end
section
set_option Elab.async false
set_option linter.all false
set_option maxRecDepth 100000
set_option maxHeartbeats 4000000
namespace K13
open PySem PySem.Spec PyProof.Rows L2
open Evl (Ex)
theorem par_good {rs : FM.Rows Str} {p : Option Str} (h : FM.parOk rs p) : parGood rs (optV p) := ⟨by rw [toPar_opt], by rw [toPar_opt]; exact h⟩
def spWrap (K : PySem.W.Frag) : Sp := fun vs H Q _ => ∃ p rs a n v po f l, vs = [.ref p, .ref a] ∧ ForestAt K H p rs ∧ Okf rs ∧ DeedAt K H a (encD (.wrap n v po f l)) ∧ FM.parOk rs po ∧ Okf (FM.wrapped rs n v po f l) ∧ f ≤ l ∧ l ≤ 60 ∧ NewF K (FM.wrapped rs n v po f l) H Q
theorem flat_tdl {ts : List (FM.Rows Str)} {f l : Nat} (h : f ≤ l) : ((ts.take f).flatten ++ ((ts.take l).drop f).flatten ++ (ts.drop l).flatten).length = ts.flatten.length := by
  have e : ts = ts.take f ++ (ts.take l).drop f ++ ts.drop l := by
    have e1 := List.take_append_drop f (ts.take l)
    rw [List.take_take, Nat.min_eq_left h] at e1
    rw [e1, List.take_append_drop]
  conv => rhs; rw [e]
  rw [List.flatten_append, List.flatten_append]
section
variable {P : Program} {w : World} {K : PySem.W.Frag} {mg : Str → Option Value} {base : Heap}
theorem ok_wrapped (T : Tx K mg) : GFn P w K mg base "wrapped" CX0 7 ["forest", "deed"] (spWrap K) := by
  obtain ⟨fd, F⟩ := T.d_wrapped
  refine gfn T.g_wrapped F (F.bindsN fun _ _ _ _ _ _ us hl => match us, hl with | [_, _], _ => rfl) (ok0 F sc_wrapped (fun vs H Q E h => ?_) fun cdv A outer s H vs Q E hr h => ?_)
  · obtain ⟨p, rs, a, n, v, po, f, l, rfl, _⟩ := h; rfl
  · obtain ⟨p, rs, a, n, v, po, f, l, rfl, G, ok, hd, hpo, okw, hfl, hl60, q⟩ := h
    refine ⟨_, pss_cons (ps_set (i := 2) sc_wrapped.nd rfl (.inl rfl) (pe_g (ok_subtrees T) hr pass0 (pa_cons (pv 0) (pa_cons (pe_fld (pv 1) rfl) pa_nil))))
      (Evl.pss_cut (ps_setLc2 (i := 3) (own := [("rows", 4), ("row", 5)]) (vs1 := [5]) (g := gName 4) (tt := tYes) (wi1 := iSeqA (tCall spRaised [] E00 (tCons (tVar 4) (tCons (tC (.int 1)) tNil)))) (g1 := gName 5) (tt1 := tYes) rfl sc_wrapped.nd rfl rfl (sw_true rfl rfl rfl (by decide +kernel)) (pi_seqA (pe_slice sl_list (pv 2) (po_some (pe_fld (pv 1) rfl)) (po_some (pe_fld (pv 1) rfl)))) (blkOk_by (N := N_wrapped) (sc := defScope st_wrapped) (by decide +kernel)) (by decide)
        (fun _ _ _ _ _ => pg_name (i := 4) sc_wrapped.nd rfl (.inl rfl)) (fun _ _ _ _ _ => pts_nil) (fun _ _ _ _ _ => pi_seqA (pe_g (E := E00) (ok_raised T) hr pass0 (pa_cons (pv 4) (pa_cons pe_int pa_nil)))) (fun _ _ _ _ _ => pg_name (i := 5) sc_wrapped.nd rfl (.inl rfl)) (fun _ _ _ _ _ => pts_nil) (fun _ _ _ _ _ => pv 5))
      (pss_cons (ps_set (i := 2) sc_wrapped.nd rfl (.inl rfl) (pe_op op_cat (pe_op op_cat (pe_slice sl_list (pv 2) po_none (po_some (pe_fld (pv 1) rfl))) (pe_lst (pa_cons (pe_op op_cat (pe_lst (pa_cons (pe_tup (pa_cons (pe_fld (pv 1) rfl) (pa_cons (pe_fld (pv 1) rfl) (pa_cons pe_int pa_nil)))) pa_nil)) (pv 3)) pa_nil))) (pe_slice sl_list (pv 2) (po_some (pe_fld (pv 1) rfl)) po_none)))
      (pss_one (ps_ret (pe_k (ok_Forest_init T) hr pass0 (pa_cons (pe_g (ok_with_subtrees T) hr pass0 (pa_cons (pv 0) (pa_cons (pe_fld (pv 1) rfl) (pa_cons (pv 2) pa_nil)))) pa_nil)))))), ?_⟩
    obtain ⟨dx, hd⟩ := hd
    have D0 : ∀ (d : DV), d = encD (.wrap n v po f l) → Cls K (He.ga K d.cls) := fun d _ => T.clD d
    have pg := par_good hpo
    have hT := trees_len ok hpo
    have cW : Cls K (He.ga K (encD (.wrap n v po f l)).cls) := T.clD _
    have aN : NoAttr K (He.ga K (encD (.wrap n v po f l)).cls) "name" := T.no_Wrap_name
    have aV : NoAttr K (He.ga K (encD (.wrap n v po f l)).cls) "value" := T.no_Wrap_value
    have aP : NoAttr K (He.ga K (encD (.wrap n v po f l)).cls) "parent" := T.no_Wrap_parent
    have aF : NoAttr K (He.ga K (encD (.wrap n v po f l)).cls) "first" := T.no_Wrap_first
    have aL : NoAttr K (He.ga K (encD (.wrap n v po f l)).cls) "last" := T.no_Wrap_last
    have gN : (encD (.wrap n v po f l)).fs.lookup ("name" : Str) = some (.str n) := fld_nm (d := encD (.wrap n v po f l)) rfl
    have gV : (encD (.wrap n v po f l)).fs.lookup ("value" : Str) = some (.int v) := fld_vl (d := encD (.wrap n v po f l)) rfl
    have gP : (encD (.wrap n v po f l)).fs.lookup ("parent" : Str) = some (optV po) := fld_pr (d := encD (.wrap n v po f l)) rfl
    have gF : (encD (.wrap n v po f l)).fs.lookup ("first" : Str) = some (.int ((f : Nat) : Int)) := fld_fi (d := encD (.wrap n v po f l)) rfl
    have gL : (encD (.wrap n v po f l)).fs.lookup ("last" : Str) = some (.int ((l : Nat) : Int)) := fld_la (d := encD (.wrap n v po f l)) rfl
    refine ⟨_, rfl, _, rfl, a, _, dx, _, _, rfl, hd, cW, aP, gP, p, rs, optV po, rfl, G, ok, pg, ?_⟩
    rw [toPar_opt]
    intro tl ls H1 htl e1 h1 hL
    generalize hTS : FM.trees rs po = ts at hT hL
    have hlen := hL.len
    have htd : ((ts.take l).drop f).flatten.length ≤ 60 := by
      have := flat_tdl (ts := ts) hfl
      rw [List.length_append, List.length_append] at this
      omega
    refine ⟨fun σ H' => ∃ c ws, σ = [some (.ref p), some (.ref a), some (.ref tl), some (.ref c), none, none] ∧ Ex H1 H' ∧ H' c = some (.lst ws) ∧ RowsAt H' ws (FM.lift 1 ((ts.take l).drop f).flatten), ?_, ?_⟩
    · refine ⟨_, rfl, _, rfl, a, _, dx, _, _, rfl, e1 _ _ hd, cW, aF, gF, _, rfl, _, rfl, a, _, dx, _, _, rfl, e1 _ _ hd, cW, aL, gL, _, rfl, tl, ls, rfl, SqL.of h1, fun c0 hc0 => ?_⟩
      rw [cut_td]
      have e12 := Ex.new (o := .lst ((ls.take l).drop f)) hc0
      have h2 : upd H1 c0 (.lst ((ls.take l).drop f)) c0 = some (.lst ((ls.take l).drop f)) := upd_same
      have hL2 := ((hL.take l).drop f).mono e12
      generalize upd H1 c0 (.lst ((ls.take l).drop f)) = H2 at e12 h2 hL2
      generalize (ls.take l).drop f = xs at h2 hL2
      generalize (ts.take l).drop f = us at hL2 htd
      have hxs := hL2.len
      refine ⟨c0, true, xs, rfl, Sk.l h2, fun J S D hD => ?_⟩
      refine lc2_by xs.length (fun i H' => Ex H2 H' ∧ ∃ ws, H' D = some (.lst ws) ∧ RowsAt H' ws (FM.lift 1 (us.take i).flatten)) ⟨Ex.new hD, [], upd_same, trivial⟩ (fun i H' hi hP => S.go i H' (Sk.l (hP.1 _ _ h2)) hi) (fun H' hP => S.stop H' (Sk.l (hP.1 _ _ h2))) (fun i x H' H'' hi hP hy => ?_) fun H' hP => ?_
      · obtain ⟨e0, hx⟩ := S.yld i H' x H'' (Sk.l (hP.1 _ _ h2)) hy
        subst e0
        obtain ⟨e4, ws, hw, hRw⟩ := hP
        obtain ⟨t, ht, l1, ys, rfl, hl, hR⟩ := hL2.get hx
        have htl : t.length ≤ 1000 := by
          have := flat_bound (j := t.length) ht
          rw [List.length_append, List.take_length] at this
          omega
        refine ⟨rfl, _, rfl, true, l1, ys, t, _, rfl, Sk.l (e4 _ _ hl), hR.mono e4, htl, fun l2 ys2 H5 hl2 e45 h5 hR5 => ?_⟩
        have hD5 := e45 _ _ hw
        refine ⟨l2, true, ys2, rfl, Sk.l h5, fun J1 S1 => ?_⟩
        have hne : l2 ≠ D := Ne.symm (ne_of_none hw hl2)
        refine in_by ys2.length (fun j H' => Ex H2 H' ∧ Ex (del H5 D) (del H' D) ∧ ∃ ws, H' D = some (.lst ws) ∧ RowsAt H' ws (FM.lift 1 ((us.take i).flatten ++ t.take j))) ⟨e4.trans e45, Ex.refl _, ws, hD5, by rw [List.take_zero, List.append_nil]; exact hRw.mono e45⟩
          (fun j H' hj hP => S1.go j H' (Sk.l (by have := hP.2.1 l2 _ (by rw [del_ne hne]; exact h5); rw [del_ne hne] at this; exact this)) hj) (fun H' hP => S1.stop H' (Sk.l (by have := hP.2.1 l2 _ (by rw [del_ne hne]; exact h5); rw [del_ne hne] at this; exact this))) (fun j x H6 H7 hj hP hy => ?_) fun H' hP => ?_
        · have h62 : H6 l2 = some (.lst ys2) := by have := hP.2.1 l2 _ (by rw [del_ne hne]; exact h5); rw [del_ne hne] at this; exact this
          obtain ⟨e0, hx1⟩ := S1.yld j H6 x H7 (Sk.l h62) hy
          subst e0
          obtain ⟨e6, e56, ws2, hw2, hR2⟩ := hP
          obtain ⟨r, hr', hrx⟩ := hR5.get hx1
          have hr0 : t[j]? = some ⟨r.n, r.v, r.l - 1⟩ := by
            unfold FM.lift at hr'
            rw [List.getElem?_map] at hr'
            obtain ⟨r0, h0, rfl⟩ := Option.map_eq_some_iff.mp hr'
            rw [h0]
            congr 1
            obtain ⟨a1, a2, a3⟩ := r0
            show (⟨a1, a2, a3⟩ : R) = ⟨a1, a2, a3 + 1 - 1⟩
            congr 1
            omega
          have hrx6 : RowAt H7 x r := by
            obtain ⟨qq, eq, hq⟩ := hrx
            have n2 : qq ≠ D := ne_of hq hD5 (by intro z; cases z)
            have := e56 qq _ (by rw [del_ne n2]; exact hq)
            rw [del_ne n2] at this
            exact ⟨qq, eq, this⟩
          refine ⟨rfl, _, rfl, ws2, hw2, szLt (by rw [hR2.len, lift_len]; exact Nat.lt_of_le_of_lt (flat_bound ht) (by omega)), e6.mut hD, by rw [del_upd]; exact e56, _, upd_same, ?_⟩
          rw [take_snoc hr0, ← List.append_assoc, FM.lift_app]
          refine RowsAt.updL hw2 (hR2.snoc ?_)
          show RowAt _ _ ⟨r.n, r.v, r.l - 1 + 1⟩
          rw [show r.l - 1 + 1 = r.l by omega]
          exact hrx6
        · obtain ⟨e6, e56, ws2, hw2, hR2⟩ := hP
          refine ⟨e6, ws2, hw2, ?_⟩
          rw [hR5.len, lift_len, List.take_length] at hR2
          rw [flat_snoc ht]
          exact hR2
      · obtain ⟨e4, ws, hw, hRw⟩ := hP
        rw [hxs, List.take_length] at hRw
        exact ⟨D, ws, rfl, e12.trans e4, hw, hRw⟩
    · rintro σ H2 ⟨c, ws, rfl, e12, hc, hRc⟩
      have e2 := e1.trans e12
      have hws := hRc.len
      rw [lift_len] at hws
      refine ⟨_, rfl, _, rfl, a, _, dx, _, _, rfl, e2 _ _ hd, cW, aF, gF, _, rfl, tl, ls, rfl, SqL.of (e12 _ _ h1), fun c1 hc1 => ?_⟩
      rw [cut_take]
      have e23 := Ex.new (o := .lst (ls.take f)) hc1
      have h3 : upd H2 c1 (.lst (ls.take f)) c1 = some (.lst (ls.take f)) := upd_same
      generalize upd H2 c1 (.lst (ls.take f)) = H3 at e23 h3
      have e3 := e2.trans e23
      refine ⟨_, rfl, a, _, dx, _, _, rfl, e3 _ _ hd, cW, aN, gN, _, rfl, a, _, dx, _, _, rfl, e3 _ _ hd, cW, aV, gV, (by show 3 ≤ sizeLine; decide), fun c2 hc2 => ?_⟩
      have e34 := Ex.new (o := .tup [.str n, .int v, .int 0]) hc2
      have h4 : upd H3 c2 (.tup [.str n, .int v, .int 0]) c2 = some (.tup [.str n, .int v, .int 0]) := upd_same
      generalize upd H3 c2 (.tup [.str n, .int v, .int 0]) = H4 at e34 h4
      refine ⟨(by show 1 ≤ sizeLine; decide), fun c3 hc3 => ⟨_, rfl, ?_⟩⟩
      have e45 := Ex.new (o := .lst [.ref c2]) hc3
      have e25 := (e23.trans e34).trans e45
      refine cat_l upd_same (e25 _ _ hc) (by show 1 + _ ≤ _; omega) fun c4 hc4 => ?_
      have e56 := Ex.new (o := .lst ([.ref c2] ++ ws)) hc4
      have h6 : upd (upd H4 c3 (.lst [.ref c2])) c4 (.lst ([.ref c2] ++ ws)) c4 = some (.lst ([.ref c2] ++ ws)) := upd_same
      have e46 := e45.trans e56
      generalize upd (upd H4 c3 (.lst [.ref c2])) c4 (.lst ([.ref c2] ++ ws)) = H6 at e46 h6
      refine ⟨(by show 1 ≤ sizeLine; decide), fun c5 hc5 => ?_⟩
      have e67 := Ex.new (o := .lst [.ref c4]) hc5
      have e47 := e46.trans e67
      refine cat_l ((e34.trans e47) _ _ h3) upd_same (by rw [List.length_take]; show _ + 1 ≤ _; omega) fun c6 hc6 => ?_
      have e78 := Ex.new (o := .lst (ls.take f ++ [.ref c4])) hc6
      have h8 : upd (upd H6 c5 (.lst [.ref c4])) c6 (.lst (ls.take f ++ [.ref c4])) c6 = some (.lst (ls.take f ++ [.ref c4])) := upd_same
      have e68 := e67.trans e78
      generalize upd (upd H6 c5 (.lst [.ref c4])) c6 (.lst (ls.take f ++ [.ref c4])) = H8 at e68 h8
      have e48 := e46.trans e68
      have e28 := (e23.trans e34).trans e48
      have e8 := e2.trans e28
      refine ⟨_, rfl, _, rfl, a, _, dx, _, _, rfl, e8 _ _ hd, cW, aL, gL, _, rfl, tl, ls, rfl, SqL.of ((e12.trans e28) _ _ h1), fun c7 hc7 => ?_⟩
      rw [cut_drop]
      have e89 := Ex.new (o := .lst (ls.drop l)) hc7
      refine cat_l (e89 _ _ h8) upd_same (by rw [List.length_append, List.length_take, List.length_drop]; show _ + 1 + _ ≤ _; omega) fun c9 hc9 => ?_
      have e9 := e89.trans (Ex.new (o := .lst (ls.take f ++ [.ref c4] ++ ls.drop l)) hc9)
      have h9 : upd (upd H8 c7 (.lst (ls.drop l))) c9 (.lst (ls.take f ++ [.ref c4] ++ ls.drop l)) c9 = some (.lst (ls.take f ++ [.ref c4] ++ ls.drop l)) := upd_same
      generalize upd (upd H8 c7 (.lst (ls.drop l))) c9 (.lst (ls.take f ++ [.ref c4] ++ ls.drop l)) = H9 at e9 h9
      have e19 := (e12.trans e28).trans e9
      have e09 := e1.trans e19
      have hA : ListAt H9 (.ref c4) (⟨n, v, 0⟩ :: FM.lift 1 ((ts.take l).drop f).flatten) := ⟨c4, _, rfl, (e68.trans e9) _ _ h6, ⟨c2, rfl, (e48.trans e9) _ _ h4⟩, hRc.mono (e28.trans e9)⟩
      have hL9 : ListsAt H9 (ls.take f ++ [.ref c4] ++ ls.drop l) (ts.take f ++ [⟨n, v, 0⟩ :: FM.lift 1 ((ts.take l).drop f).flatten] ++ ts.drop l) := (((hL.take f).mono e19).app (ws := [.ref c4]) (us := [_]) ⟨hA, trivial⟩).app ((hL.drop l).mono e19)
      have hb : (ts.take f ++ [⟨n, v, 0⟩ :: FM.lift 1 ((ts.take l).drop f).flatten] ++ ts.drop l).flatten.length ≤ 500 := by
        have := flat_tdl (ts := ts) hfl
        rw [List.length_append, List.length_append] at this
        rw [List.flatten_append, List.flatten_append, List.length_append, List.length_append]
        have e2 : ([⟨n, v, 0⟩ :: FM.lift 1 ((ts.take l).drop f).flatten] : List (FM.Rows Str)).flatten.length = 1 + ((ts.take l).drop f).flatten.length := by
          rw [List.flatten_cons, List.flatten_nil, List.append_nil, List.length_cons, lift_len]; omega
        rw [e2]
        omega
      refine ⟨_, rfl, _, rfl, a, _, dx, _, _, rfl, e09 _ _ hd, cW, aP, gP, _, rfl, p, rs, optV po, c9, _, _, rfl, G.mono e09, ok, pg, h9, hL9, hb, ?_⟩
      rw [toPar_opt]
      have hWr : FM.withTrees rs po (ts.take f ++ [⟨n, v, 0⟩ :: FM.lift 1 ((ts.take l).drop f).flatten] ++ ts.drop l) = FM.wrapped rs n v po f l := by rw [← hTS]; rfl
      rw [hWr]
      intro l7 vs7 H10 hl7 e910 h10 hR10
      exact mk_forest (Sk.l h10) hR10 okw fun x H11 hx e1011 hF => q x H11 (Evl.fresh_back (e09.trans e910) hx) ((e09.trans e910).trans e1011) hF
end
end K13
end
section
set_option Elab.async false
set_option linter.all false
set_option maxRecDepth 100000
set_option maxHeartbeats 4000000
namespace K13
open PySem PySem.Spec PyProof.Rows L2
open Evl (Ex)
def spDone (K : PySem.W.Frag) : Sp := fun vs H Q E => ∃ p rs x o, vs = [.ref p, x] ∧ ForestAt K H p rs ∧ Okf rs ∧ TH K H x o ∧ (∀ wd, whyV rs o = some wd → Rz K H E wd) ∧ (∀ D, o = some (encD D) → FM.okD nmOk vvOk rs D → NewF K (FM.doneD rs D) H Q)
theorem NewF.mono {K : PySem.W.Frag} {rs : FM.Rows Str} {H H' : Hp} {Q : VK} (e : Ex H H') (q : NewF K rs H Q) : NewF K rs H' Q := fun p H2 hp e2 hF => q p H2 (Evl.fresh_back e hp) (e.trans e2) hF
theorem without_mem {rs : FM.Rows Str} (ok : Okf rs) {n m : Str} (hn : n ∈ FM.names rs) (hm : m ∈ FM.names rs) (h1 : m ≠ n) (h2 : m ∉ FM.names (FM.bel rs n)) : m ∈ FM.names (FM.without rs n) := by
  obtain ⟨A, X, B, C, a, rfl⟩ := FM.at_of ok.st ok.nd hn
  rw [a.without]
  rw [a.bel] at h2
  rw [a.eq] at hm
  have e : FM.names (A ++ X :: (B ++ C)) = FM.names A ++ X.n :: (FM.names B ++ FM.names C) := by
    rw [FM.names_app]
    congr 1
    show X.n :: FM.names (B ++ C) = _
    rw [FM.names_app]
  rw [e] at hm
  rw [FM.names_app]
  rcases List.mem_append.mp hm with h | h
  · exact List.mem_append_left _ h
  · rcases List.mem_cons.mp h with h | h
    · exact absurd h h1
    · rcases List.mem_append.mp h with h | h
      · exact absurd h h2
      · exact List.mem_append_right _ h
theorem flat_rev {ts : List (FM.Rows Str)} : ts.reverse.flatten.length = ts.flatten.length := by
  rw [List.length_flatten, List.length_flatten, List.map_reverse]
  exact List.sum_reverse _
theorem setV_take {rs : FM.Rows Str} {n : Str} {v : Int} {i : Nat} {r : R} (h : rs[i]? = some r) : FM.setV (rs.take (i + 1)) n v = FM.setV (rs.take i) n v ++ [⟨r.n, if r.n = n then v else r.v, r.l⟩] := by
  rw [take_snoc h]
  unfold FM.setV
  rw [List.map_append]
  rfl
section
variable {P : Program} {w : World} {K : PySem.W.Frag} {mg : Str → Option Value} {base : Heap}
theorem ok_done (T : Tx K mg) : GFn P w K mg base "done" (L2.CX P w) 8 ["forest", "deed"] (spDone K) := by
  obtain ⟨fd, F⟩ := T.d_done
  refine gfn T.g_done F (F.bindsN fun _ _ _ _ _ _ us hl => match us, hl with | [_, _], _ => rfl) (okX F sc_done (fun vs H Q E h => ?_) fun cdv A outer s H vs Q E hr h => ?_)
  · obtain ⟨p, rs, x, o, rfl, _⟩ := h; rfl
  · obtain ⟨p, rs, x, o, rfl, G, ok, th, q1, q2⟩ := h
    have isB : ∀ c : Str, True := fun _ => trivial
    refine ⟨_, pss_cons (ps_expr (pe_g (ok_check_deed T) hr (passes_call (takes_of rfl rfl rfl rfl) fun _ _ _ _ h => h) (pa_cons (pv 0) (pa_cons (pv 1) pa_nil))))
      (pss_cons (ps_if (pt_val (pe_callB call_isi rfl T.z_isinstance b_isinstance (pa_cons (pv 1) (pa_cons (pe_glob (v := .ref (He.ga K "Put")) rfl T.g_Put rfl) pa_nil))))
        (pss_one (ps_ret (pe_g (ok_put_under T) hr pass0 (pa_cons (pv 0) (pa_cons (pe_fld (pv 1) rfl) (pa_cons (pe_fld (pv 1) rfl) (pa_cons (pe_lst (pa_cons (pe_tup (pa_cons (pe_fld (pv 1) rfl) (pa_cons (pe_fld (pv 1) rfl) (pa_cons pe_int pa_nil)))) pa_nil)) pa_nil))))))) pss_nil)
      (pss_cons (ps_if (pt_val (pe_callB call_isi rfl T.z_isinstance b_isinstance (pa_cons (pv 1) (pa_cons (pe_glob (v := .ref (He.ga K "Move")) rfl T.g_Move rfl) pa_nil))))
        (pss_one (ps_ret (pe_g (ok_put_under T) hr pass0 (pa_cons (pe_g (ok_without T) hr pass0 (pa_cons (pv 0) (pa_cons (pe_fld (pv 1) rfl) pa_nil))) (pa_cons (pe_fld (pv 1) rfl) (pa_cons (pe_fld (pv 1) rfl) (pa_cons (pe_g (ok_subtree T) hr pass0 (pa_cons (pv 0) (pa_cons (pe_fld (pv 1) rfl) pa_nil))) pa_nil))))))) pss_nil)
      (pss_cons (ps_if (pt_val (pe_callB call_isi rfl T.z_isinstance b_isinstance (pa_cons (pv 1) (pa_cons (pe_glob (v := .ref (He.ga K "Cut")) rfl T.g_Cut rfl) pa_nil))))
        (pss_one (ps_ret (pe_g (ok_without T) hr pass0 (pa_cons (pv 0) (pa_cons (pe_fld (pv 1) rfl) pa_nil))))) pss_nil)
      (pss_cons (ps_if (pt_val (pe_callB call_isi rfl T.z_isinstance b_isinstance (pa_cons (pv 1) (pa_cons (pe_glob (v := .ref (He.ga K "Lift")) rfl T.g_Lift rfl) pa_nil))))
        (pss_one (ps_ret (pe_g (ok_lifted T) hr pass0 (pa_cons (pv 0) (pa_cons (pe_fld (pv 1) rfl) pa_nil))))) pss_nil)
      (pss_cons (ps_if (pt_val (pe_callB call_isi rfl T.z_isinstance b_isinstance (pa_cons (pv 1) (pa_cons (pe_glob (v := .ref (He.ga K "Wrap")) rfl T.g_Wrap rfl) pa_nil))))
        (pss_one (ps_ret (pe_g (ok_wrapped T) hr pass0 (pa_cons (pv 0) (pa_cons (pv 1) pa_nil))))) pss_nil)
      (pss_cons (ps_if (pt_val (pe_callB call_isi rfl T.z_isinstance b_isinstance (pa_cons (pv 1) (pa_cons (pe_glob (v := .ref (He.ga K "Reverse")) rfl T.g_Reverse rfl) pa_nil))))
        (pss_one (ps_ret (pe_k (ok_Forest_init T) hr pass0 (pa_cons (pe_g (ok_with_subtrees T) hr pass0 (pa_cons (pv 0) (pa_cons (pe_fld (pv 1) rfl) (pa_cons (pe_revL (pe_g (ok_subtrees T) hr pass0 (pa_cons (pv 0) (pa_cons (pe_fld (pv 1) rfl) pa_nil)))) pa_nil)))) pa_nil)))) pss_nil)
      (pss_one (ps_ret (pe_k (ok_Forest_init T) hr pass0 (pa_cons (pe_lc (own := [("name", 2), ("value", 3), ("level", 4)]) (g := gTup K 3 (gCons (gName 2) (gCons (gName 3) (gCons (gName 4) gNil)))) (tt := tYes)
        (te := tTup (tCons (tVar 2) (tCons (tIf (tTest (tOp rEq (tVar 2) (tFld K (tVar 1) "name"))) (tFld K (tVar 1) "value") (tVar 3)) (tCons (tVar 4) tNil)))) rfl sc_done.nd (pi_seqA (pe_fld (pv 0) rfl)) (blkOk_by (N := N_done) (sc := defScope st_done) (by decide +kernel))
        (fun _ _ _ _ _ => pg_tup rfl (pgs_cons (pg_name (i := 2) sc_done.nd rfl (.inl rfl)) (pgs_cons (pg_name (i := 3) sc_done.nd rfl (.inl rfl)) (pgs_cons (pg_name (i := 4) sc_done.nd rfl (.inl rfl)) pgs_nil)))) (fun _ _ _ _ _ => pts_nil)
        (fun _ _ _ _ _ => pe_tup (pa_cons (pv 2) (pa_cons (pe_ifExp (pt_cmpR (r := rEq) op_eq (pv 2) (pe_fld (pv 1) rfl) (nomark _)) (pe_fld (pv 1) rfl) (pv 3)) (pa_cons (pv 4) pa_nil))))) pa_nil)))))))))), ?_⟩
    refine ⟨_, rfl, _, rfl, p, rs, x, o, rfl, G, ok, th, ?_⟩
    cases hw : whyV rs o with
    | some wd => exact q1 wd hw
    | none =>
    cases o with
    | none => cases hw
    | some d =>
    obtain ⟨D, rfl, hD⟩ := why_none (d := d) hw
    have q2 := q2 D rfl hD
    have okn : Okf (FM.doneD rs D) := (FM.main ok hD).1
    obtain ⟨a, rfl, hd0, hk⟩ := th
    intro H1 e1
    have q := NewF.mono e1 q2
    have G1 := G.mono e1
    have hd1 := hd0.mono e1
    have ty := tyD T hd1
    obtain ⟨dx, hd⟩ := id hd1
    have fl : ∀ {f : Str} {v : V}, NoAttr K (He.ga K (encD D).cls) f → (encD D).fs.lookup f = some v → ∀ {H2 : Hp} {Q : VK}, Ex H1 H2 → Q v H2 → ∃ (a' : Addr) (C dx' : Addr) (fs : List (Str × V)) (v' : V), V.ref a = .ref a' ∧ H2 a' = some (.ins C dx' fs) ∧ Cls K C ∧ NoAttr K C f ∧ fs.lookup f = some v' ∧ Q v' H2 := fun hn hl H2 Q e h => ⟨a, _, dx, _, _, rfl, e _ _ hd, T.clD _, hn, hl, h⟩
    cases D with
    | put n v po r =>
      obtain ⟨h1, h2, h3, h4, h5, h6⟩ := hD
      refine ⟨_, rfl, _, _, _, _, _, rfl, .own _, ty, T.kD_Put _, _, rfl, iteT ?_⟩
      refine ⟨_, rfl, _, rfl, a, _, dx, _, _, rfl, hd, T.clD _, T.no_Put_parent, (fld_pr rfl), _, rfl, a, _, dx, _, _, rfl, hd, T.clD _, T.no_Put_rank, (fld_rk rfl), _, rfl, a, _, dx, _, _, rfl, hd, T.clD _, T.no_Put_name, (fld_nm rfl), _, rfl, a, _, dx, _, _, rfl, hd, T.clD _, T.no_Put_value, (fld_vl rfl), (by show 3 ≤ sizeLine; decide), fun c1 hc1 => ⟨(by show 1 ≤ sizeLine; decide), fun c2 hc2 => ?_⟩⟩
      have e2 := (Ex.new (o := .tup [.str n, .int v, .int 0]) hc1).trans (Ex.new (o := .lst [.ref c1]) hc2)
      refine ⟨p, rs, optV po, r, c2, [.ref c1], [⟨n, v, 0⟩], rfl, G1.mono e2, ok, par_good h3, upd_same, ⟨⟨c1, rfl, by rw [upd_ne (ne_of_none (H := upd H1 c1 (.tup [.str n, .int v, .int 0])) upd_same hc2)]; exact upd_same⟩, trivial⟩, (by show 1 ≤ 100; decide), ?_, ?_⟩
      · rw [toPar_opt]; exact okn
      · rw [toPar_opt]; exact NewF.mono e2 q
    | move n po r =>
      obtain ⟨h1, h2, h3, h4⟩ := hD
      have okw : Okf (FM.without rs n) := (FM.main ok (d := .cut n) h1).1
      have hpw : FM.parOk (FM.without rs n) po := fun m e => without_mem ok h1 (h2 m e) (h3 m e).1 (h3 m e).2
      refine ⟨_, rfl, _, _, _, _, _, rfl, .own _, ty, T.kD_Put _, _, rfl, iteF ⟨_, rfl, _, _, _, _, _, rfl, .own _, ty, T.kD_Move _, _, rfl, iteT ?_⟩⟩
      refine ⟨_, rfl, _, rfl, a, _, dx, _, _, rfl, hd, T.clD _, T.no_Move_name, (fld_nm rfl), p, rs, n, rfl, G1, ok, h1, okw, fun p2 H2 hp2 e12 hF2 => ⟨_, rfl, a, _, dx, _, _, rfl, (e12 _ _ hd), T.clD _, T.no_Move_parent, (fld_pr rfl), _, rfl, a, _, dx, _, _, rfl, (e12 _ _ hd), T.clD _, T.no_Move_rank, (fld_rk rfl), _, rfl, _, rfl, a, _, dx, _, _, rfl, (e12 _ _ hd), T.clD _, T.no_Move_name, (fld_nm rfl), p, rs, n, rfl, G1.mono e12, ok, h1, fun l vs H3 hl e23 h3' hR3 => ?_⟩⟩
      refine ⟨p2, FM.without rs n, optV po, r, l, vs, FM.sub rs n, rfl, hF2.mono e23, okw, par_good hpw, h3', hR3, ?_, ?_, ?_⟩
      · have : (FM.sub rs n).length ≤ rs.length := by
          unfold FM.sub
          rw [lift_len, List.length_take, List.length_drop]
          omega
        have := ok.len
        omega
      · rw [toPar_opt]; exact okn
      · rw [toPar_opt]; exact NewF.mono (e12.trans e23) q
    | cut n =>
      refine ⟨_, rfl, _, _, _, _, _, rfl, .own _, ty, T.kD_Put _, _, rfl, iteF ⟨_, rfl, _, _, _, _, _, rfl, .own _, ty, T.kD_Move _, _, rfl, iteF ⟨_, rfl, _, _, _, _, _, rfl, .own _, ty, T.kD_Cut _, _, rfl, iteT ?_⟩⟩⟩
      exact ⟨_, rfl, _, rfl, a, _, dx, _, _, rfl, hd, T.clD _, T.no_Cut_name, (fld_nm rfl), p, rs, n, rfl, G1, ok, hD, okn, q⟩
    | lift n =>
      refine ⟨_, rfl, _, _, _, _, _, rfl, .own _, ty, T.kD_Put _, _, rfl, iteF ⟨_, rfl, _, _, _, _, _, rfl, .own _, ty, T.kD_Move _, _, rfl, iteF ⟨_, rfl, _, _, _, _, _, rfl, .own _, ty, T.kD_Cut _, _, rfl, iteF ⟨_, rfl, _, _, _, _, _, rfl, .own _, ty, T.kD_Lift _, _, rfl, iteT ?_⟩⟩⟩⟩
      exact ⟨_, rfl, _, rfl, a, _, dx, _, _, rfl, hd, T.clD _, T.no_Lift_name, (fld_nm rfl), p, rs, n, rfl, G1, ok, hD, okn, q⟩
    | wrap n v po f l =>
      obtain ⟨h1, h2, h3, h4, h5, h6, h7⟩ := hD
      refine ⟨_, rfl, _, _, _, _, _, rfl, .own _, ty, T.kD_Put _, _, rfl, iteF ⟨_, rfl, _, _, _, _, _, rfl, .own _, ty, T.kD_Move _, _, rfl, iteF ⟨_, rfl, _, _, _, _, _, rfl, .own _, ty, T.kD_Cut _, _, rfl, iteF ⟨_, rfl, _, _, _, _, _, rfl, .own _, ty, T.kD_Lift _, _, rfl, iteF ⟨_, rfl, _, _, _, _, _, rfl, .own _, ty, T.kD_Wrap _, _, rfl, iteT ?_⟩⟩⟩⟩⟩
      exact ⟨_, rfl, _, rfl, p, rs, a, n, v, po, f, l, rfl, G1, ok, hd1, h3, okn, Nat.le_of_lt h5, Nat.le_trans h6 (kids_len ok po), q⟩
    | rev po =>
      have hT := trees_len ok hD
      refine ⟨_, rfl, _, _, _, _, _, rfl, .own _, ty, T.kD_Put _, _, rfl, iteF ⟨_, rfl, _, _, _, _, _, rfl, .own _, ty, T.kD_Move _, _, rfl, iteF ⟨_, rfl, _, _, _, _, _, rfl, .own _, ty, T.kD_Cut _, _, rfl, iteF ⟨_, rfl, _, _, _, _, _, rfl, .own _, ty, T.kD_Lift _, _, rfl, iteF ⟨_, rfl, _, _, _, _, _, rfl, .own _, ty, T.kD_Wrap _, _, rfl, iteF ⟨_, rfl, _, _, _, _, _, rfl, .own _, ty, T.kD_Reverse _, _, rfl, iteT ?_⟩⟩⟩⟩⟩⟩
      refine ⟨_, rfl, _, rfl, a, _, dx, _, _, rfl, hd, T.clD _, T.no_Reverse_parent, (fld_pr rfl), _, rfl, _, rfl, a, _, dx, _, _, rfl, hd, T.clD _, T.no_Reverse_parent, (fld_pr rfl), p, rs, optV po, rfl, G1, ok, par_good hD, ?_⟩
      rw [toPar_opt]
      intro l vs H2 hl e12 h2 hL
      refine ⟨l, vs, rfl, SqL.of h2, fun c hc => ?_⟩
      have e13 := e12.trans (Ex.new (o := .lst vs.reverse) hc)
      refine ⟨p, rs, optV po, c, vs.reverse, (FM.trees rs po).reverse, rfl, G1.mono e13, ok, par_good hD, upd_same, (hL.mono (Ex.new hc)).rev, by rw [flat_rev]; omega, ?_⟩
      rw [toPar_opt]
      intro l7 vs7 H7 hl7 e37 h7 hR7
      exact mk_forest (Sk.l h7) (rs := FM.doneD rs (.rev po)) hR7 okn fun x H11 hx e1011 hF => q x H11 (Evl.fresh_back (e13.trans e37) hx) ((e13.trans e37).trans e1011) hF
    | setv n v =>
      refine ⟨_, rfl, _, _, _, _, _, rfl, .own _, ty, T.kD_Put _, _, rfl, iteF ⟨_, rfl, _, _, _, _, _, rfl, .own _, ty, T.kD_Move _, _, rfl, iteF ⟨_, rfl, _, _, _, _, _, rfl, .own _, ty, T.kD_Cut _, _, rfl, iteF ⟨_, rfl, _, _, _, _, _, rfl, .own _, ty, T.kD_Lift _, _, rfl, iteF ⟨_, rfl, _, _, _, _, _, rfl, .own _, ty, T.kD_Wrap _, _, rfl, iteF ⟨_, rfl, _, _, _, _, _, rfl, .own _, ty, T.kD_Reverse _, _, rfl, iteF ?_⟩⟩⟩⟩⟩⟩
      obtain ⟨fx, r, o, d, xs, hp, hr1, hR⟩ := ff_get G1
      have hlen := hR.len
      have h60 := ok.len
      refine ⟨_, rfl, p, _, fx, _, _, rfl, hp, T.cl_Forest, T.no_Forest_rows, ff_rows, r, false, xs, rfl, Sk.t hr1, fun J S D hD2 => ?_⟩
      refine lc_by xs.length (fun i H' => Ex H1 H' ∧ ∃ ws, H' D = some (.lst ws) ∧ RowsAt H' ws (FM.setV (rs.take i) n v)) ⟨Ex.new hD2, [], upd_same, trivial⟩ (fun i H' hi hP => S.go i H' (Sk.t (hP.1 _ _ hr1)) hi) (fun H' hP => S.stop H' (Sk.t (hP.1 _ _ hr1))) (fun i x H' H'' hi hP hy => ?_) fun H' hP => ?_
      · obtain ⟨e0, hx⟩ := S.yld i H' x H'' (Sk.t (hP.1 _ _ hr1)) hy
        subst e0
        obtain ⟨e6, ws, hw, hRw⟩ := hP
        obtain ⟨r', hr', q', rfl, hq'⟩ := hR.get hx
        have fin : ∀ z : Int, z = (if r'.n = n then v else r'.v) → ∀ t2, H'' t2 = none → ∃ acc, upd H'' t2 (.tup [.str r'.n, .int z, .int r'.l]) D = some (.lst acc) ∧ acc.length < sizeLine ∧ Ex H1 (upd (upd H'' t2 (.tup [.str r'.n, .int z, .int r'.l])) D (.lst (acc ++ [.ref t2]))) ∧ ∃ ws, upd (upd H'' t2 (.tup [.str r'.n, .int z, .int r'.l])) D (.lst (acc ++ [.ref t2])) D = some (.lst ws) ∧ RowsAt (upd (upd H'' t2 (.tup [.str r'.n, .int z, .int r'.l])) D (.lst (acc ++ [.ref t2]))) ws (FM.setV (rs.take (i + 1)) n v) := fun z hz t2 ht2 => by
          have hDt : D ≠ t2 := ne_of_none hw ht2
          have hw2 : upd H'' t2 (.tup [.str r'.n, .int z, .int r'.l]) D = some (.lst ws) := by rw [upd_ne hDt]; exact hw
          refine ⟨ws, hw2, szLt (by rw [hRw.len]; show (List.map _ _).length < _; rw [List.length_map, List.length_take]; omega), (e6.trans (Ex.new ht2)).mut hD2, _, upd_same, ?_⟩
          rw [setV_take hr', ← hz]
          exact RowsAt.updL hw2 ((hRw.mono (Ex.new ht2)).snoc ⟨t2, rfl, upd_same⟩)
        refine ⟨q', _, rfl, SqT.of (e6 _ _ hq'), rfl, _, _, rfl, _, _, rfl, _, _, rfl, rfl, rfl, _, rfl, _, rfl, _, rfl, a, _, dx, _, _, rfl, (e6 _ _ hd), T.clD _, T.no_SetValue_name, (fld_nm rfl), rfl, _, rfl, ?_⟩
        by_cases hq : r'.n = n
        · refine iteD (congrArg V.str hq) ⟨_, rfl, a, _, dx, _, _, rfl, (e6 _ _ hd), T.clD _, T.no_SetValue_value, (fld_vl rfl), _, rfl, (by show 3 ≤ sizeLine; decide), fun t2 ht2 => ?_⟩
          exact fin v (by rw [if_pos hq]) t2 ht2
        · refine iteDn (fun z => hq (V.str.inj z)) ⟨_, rfl, _, rfl, (by show 3 ≤ sizeLine; decide), fun t2 ht2 => ?_⟩
          exact fin r'.v (by rw [if_neg hq]) t2 ht2
      · obtain ⟨e6, ws, hw, hRw⟩ := hP
        rw [hlen, List.take_length] at hRw
        exact mk_forest (Sk.l hw) (rs := FM.doneD rs (.setv n v)) hRw okn fun x H11 hx e1011 hF => q x H11 (Evl.fresh_back e6 hx) (e6.trans e1011) hF
end
end K13
end
section
set_option Elab.async false
set_option linter.all false
set_option maxRecDepth 100000
set_option maxHeartbeats 4000000
namespace K13
open PySem PySem.Spec PyProof.Rows L2
open Evl (Ex)
abbrev Ds := List (FM.D Str)
/-! ## lists of deeds -/
def DsAt (K : PySem.W.Frag) (H : Hp) : List V → Ds → Prop
  | [], [] => True
  | v :: vs, d :: ds => (∃ a, v = .ref a ∧ DeedAt K H a (encD d)) ∧ DsAt K H vs ds
  | _, _ => False
theorem DsAt.mono {K : PySem.W.Frag} {H H' : Hp} (e : Ex H H') : ∀ {vs : List V} {ds : Ds}, DsAt K H vs ds → DsAt K H' vs ds
  | [], [], _ => trivial
  | [], _ :: _, h => h.elim
  | _ :: _, [], h => h.elim
  | _ :: _, _ :: _, ⟨⟨a, e1, h1⟩, h2⟩ => ⟨⟨a, e1, h1.mono e⟩, DsAt.mono e h2⟩
theorem DsAt.len {K : PySem.W.Frag} {H : Hp} : ∀ {vs : List V} {ds : Ds}, DsAt K H vs ds → vs.length = ds.length
  | [], [], _ => rfl
  | [], _ :: _, h => h.elim
  | _ :: _, [], h => h.elim
  | _ :: _, _ :: _, ⟨_, h2⟩ => by rw [List.length_cons, List.length_cons, DsAt.len h2]
theorem DsAt.get {K : PySem.W.Frag} {H : Hp} : ∀ {vs : List V} {ds : Ds} {i : Nat} {v : V}, DsAt K H vs ds → vs[i]? = some v → ∃ d a, ds[i]? = some d ∧ v = .ref a ∧ DeedAt K H a (encD d)
  | [], _, _, _, _, e => by simp at e
  | _ :: _, [], _, _, h, _ => h.elim
  | _ :: _, d :: _, 0, _, ⟨⟨a, e1, h1⟩, _⟩, e => ⟨d, a, rfl, by simp at e; rw [← e]; exact e1, h1⟩
  | _ :: _, _ :: _, i + 1, _, ⟨_, h2⟩, e => DsAt.get (i := i) h2 (by simpa using e)
theorem DsAt.snoc {K : PySem.W.Frag} {H : Hp} : ∀ {vs : List V} {ds : Ds} {a : Addr} {d : FM.D Str}, DsAt K H vs ds → DeedAt K H a (encD d) → DsAt K H (vs ++ [.ref a]) (ds ++ [d])
  | [], [], a, d, _, h => ⟨⟨a, rfl, h⟩, trivial⟩
  | [], _ :: _, _, _, h, _ => h.elim
  | _ :: _, [], _, _, h, _ => h.elim
  | _ :: _, _ :: _, _, _, ⟨h1, h2⟩, h => ⟨h1, DsAt.snoc h2 h⟩
theorem DeedAt.updL {K : PySem.W.Frag} {H : Hp} {D a : Addr} {d : DV} {w0 ys : List V} (h : H D = some (.lst w0)) : DeedAt K H a d → DeedAt K (upd H D (.lst ys)) a d := fun ⟨dx, hd⟩ => ⟨dx, by rw [upd_ne (ne_of hd h (by intro z; cases z))]; exact hd⟩
theorem DsAt.updL {K : PySem.W.Frag} {H : Hp} {D : Addr} {w0 ys : List V} (h : H D = some (.lst w0)) : ∀ {vs : List V} {ds : Ds}, DsAt K H vs ds → DsAt K (upd H D (.lst ys)) vs ds
  | [], [], _ => trivial
  | [], _ :: _, h => h.elim
  | _ :: _, [], h => h.elim
  | _ :: _, _ :: _, ⟨⟨a, e1, h1⟩, h2⟩ => ⟨⟨a, e1, h1.updL h⟩, DsAt.updL h h2⟩
abbrev NewD (K : PySem.W.Frag) (ds : Ds) (H : Hp) (Q : VK) : Prop := ∀ l vs H', H l = none → Ex H H' → H' l = some (.lst vs) → DsAt K H' vs ds → Q (.ref l) H'
theorem NewD.mono {K : PySem.W.Frag} {ds : Ds} {H H' : Hp} {Q : VK} (e : Ex H H') (q : NewD K ds H Q) : NewD K ds H' Q := fun l vs H2 hl e2 h2 hD => q l vs H2 (Evl.fresh_back e hl) (e.trans e2) h2 hD
/-- a new deed, within a reading -/
theorem mk_deed {K : PySem.W.Frag} {c : Str} {H : Hp} {Q : VK} {E : XK} {vs : List V} {x dx : Addr} (d : DV) (hx : H x = none) (hd : H dx = none) (hv : vs = d.args) (hc : d.cls = c) (q : ∀ H', Ex H H' → DeedAt K H' x d → Q .non H') :
    spNew K c (.ref x :: (vs ++ [])) (upd (upd H dx (.own x)) x (.ins (He.ga K c) dx [])) Q E := by
  have e : Ex H (upd (upd H dx (.own x)) x (.ins (He.ga K c) dx [])) := new_ex hx hd
  refine ⟨x, dx, d, by rw [List.append_nil, hv], hc, upd_same, fun H' hb hF => q H' (fun b' o ho => ?_) ⟨dx, by rw [hc]; exact hF⟩⟩
  exact hb b' o (ne_of_none ho hx) (e _ _ ho)
def spPutting (K : PySem.W.Frag) : Sp := fun vs H Q _ => ∃ p rs n, vs = [.ref p, .str n] ∧ ForestAt K H p rs ∧ Okf rs ∧ n ∈ FM.names rs ∧ NewD K (FM.putting rs n) H Q
def spUndo (K : PySem.W.Frag) : Sp := fun vs H Q E => ∃ p rs x o, vs = [.ref p, x] ∧ ForestAt K H p rs ∧ Okf rs ∧ TH K H x o ∧ (∀ wd, whyV rs o = some wd → Rz K H E wd) ∧ (∀ D, o = some (encD D) → FM.okD nmOk vvOk rs D → NewD K (FM.undoD rs D) H Q)
theorem passF {X : Cx} : Passes (L2.CX X.prog X.w) X E00 := fun _ _ _ _ _ _ _ ⟨_, _, _, _, _, _, _, _, _, _, _, _, h⟩ => h.elim
section
variable {P : Program} {w : World} {K : PySem.W.Frag} {mg : Str → Option Value} {base : Heap}
theorem ok_putting (T : Tx K mg) : GFn P w K mg base "putting" CX0 5 ["forest", "name"] (spPutting K) := by
  obtain ⟨fd, F⟩ := T.d_putting
  refine gfn T.g_putting F (F.bindsN fun _ _ _ _ _ _ us hl => match us, hl with | [_, _], _ => rfl) (ok0 F sc_putting (fun vs H Q E h => ?_) fun cdv A outer s H vs Q E hr h => ?_)
  · obtain ⟨p, rs, n, rfl, _⟩ := h; rfl
  · obtain ⟨p, rs, n, rfl, G, ok, hn, q⟩ := h
    refine ⟨_, pss_cons (ps_set (i := 2) sc_putting.nd rfl (.inl rfl) (pe_lst pa_nil))
      (Evl.pss_cut (ps_for PassesOwn.never rfl (pi_seqA (pe_op op_cat (pe_lst (pa_cons (pv 1) pa_nil)) (pe_m T.cl_Forest (ok_descendants_of T) hr pass0 (pv 0) (pa_cons (pv 1) pa_nil)))) (pg_name (i := 3) sc_putting.nd rfl (.inl rfl))
        (pss_one (ps_expr (pe_bm PySem.F.plainAttrs_list PySem.F.slot_list_append PySem.F.type_list_append mt_append (pv 2) (pa_cons (pe_k (ok_Put_init T) hr pass0 (pa_cons (pv 3) (pa_cons (pe_m T.cl_Forest (ok_value_of T) hr pass0 (pv 0) (pa_cons (pv 3) pa_nil)) (pa_cons (pe_m T.cl_Forest (ok_parent_of T) hr pass0 (pv 0) (pa_cons (pv 3) pa_nil)) (pa_cons (pe_m T.cl_Forest (ok_rank_of T) hr pass0 (pv 0) (pa_cons (pv 3) pa_nil)) pa_nil))))) pa_nil)))))
      (pss_one (ps_ret (pv 2)))), ?_⟩
    obtain ⟨dx, r, o, d, hp⟩ := G.ins
    refine ⟨Nat.zero_le _, fun f hf => ?_⟩
    have e1 := Ex.new (o := .lst []) hf
    have hb60 : (FM.names (FM.bel rs n)).length ≤ 60 := by rw [names_len]; exact Nat.le_trans (FM.bel_sub (rs := rs) (n := n)).length_le ok.len
    refine ⟨fun σ H' => ∃ v ws, σ = [some (.ref p), some (.str n), some (.ref f), v] ∧ Ex H H' ∧ H' f = some (.lst ws) ∧ DsAt K H' ws (FM.putting rs n), ?_, ?_⟩
    · refine ⟨_, rfl, (by show 1 ≤ sizeLine; decide), fun l1 hl1 => ?_⟩
      have e12 := Ex.new (o := .lst [.str n]) hl1
      refine ⟨_, rfl, p, dx, _, rfl, (e1.trans e12) _ _ hp, ff_no (by decide +kernel) (by decide +kernel) (by decide +kernel), _, rfl, p, rs, n, rfl, G.mono (e1.trans e12), ok, hn, fun l2 H3 hl2 e23 h3 => ?_⟩
      refine cat_l (e23 _ _ upd_same) h3 (by rw [sVs_len]; show 1 + _ ≤ _; omega) fun l3 hl3 => ?_
      have e34 := Ex.new (o := .lst ([.str n] ++ sVs (FM.names (FM.bel rs n)))) hl3
      have e24 := (e12.trans e23).trans e34
      have hf4 := e24 _ _ (upd_same (H := H) (a := f) (o := .lst []))
      have h4 : upd H3 l3 (.lst ([.str n] ++ sVs (FM.names (FM.bel rs n)))) l3 = some (.lst (sVs (n :: FM.names (FM.bel rs n)))) := upd_same
      have e04 := e1.trans e24
      generalize upd H3 l3 (.lst ([.str n] ++ sVs (FM.names (FM.bel rs n)))) = H4 at e24 hf4 h4 e04
      generalize hNS : n :: FM.names (FM.bel rs n) = ns at h4
      have hns : ∀ m ∈ ns, m ∈ FM.names rs := fun m hm => by
        rw [← hNS] at hm
        rcases List.mem_cons.mp hm with e | h
        · rw [e]; exact hn
        · exact (FM.sub_names (FM.bel_sub (rs := rs) (n := n))).mem h
      have hnl : ns.length ≤ 61 := by rw [← hNS, List.length_cons]; omega
      have hlf : l3 ≠ f := fun z => by rw [z, hf4] at h4; rw [← hNS] at h4; cases h4
      refine ⟨l3, true, _, rfl, Sk.l h4, fun J S => ?_⟩
      refine for_sk S (fun i σ H' => ∃ v ws, σ = [some (.ref p), some (.str n), some (.ref f), v] ∧ Ex H H' ∧ H' l3 = some (.lst (sVs ns)) ∧ H' f = some (.lst ws) ∧ DsAt K H' ws ((ns.take i).map (FM.putOf rs))) ⟨_, [], rfl, e04, h4, hf4, trivial⟩ ?_ ?_ ?_
      · rintro i σ H' ⟨v, ws, rfl, _, h, _⟩
        exact Sk.l h
      · rintro i x σ H' hx ⟨v, ws, rfl, e5, h5, hf5, hD5⟩
        have hi : i < ns.length := by
          have := (List.getElem?_eq_some_iff.mp hx).1
          rw [sVs_len] at this
          exact this
        have hki : ns[i]? = some ns[i] := List.getElem?_eq_getElem hi
        generalize ns[i] = m at hki
        have hx' : x = .str m := by
          have : (List.map V.str ns)[i]? = some x := hx
          rw [List.getElem?_map, hki] at this
          exact (Option.some.inj this).symm
        subst hx'
        have hm := hns m (List.mem_of_getElem? hki)
        have lenw := hD5.len
        rw [List.length_map, List.length_take] at lenw
        refine ⟨_, rfl, .inl ⟨rfl, _, SqL.of hf5⟩, _, rfl, ?_⟩
        refine rd_of (G.mono e5) ok hm rfl rfl fun H6 e56 => ?_
        refine ⟨_, rfl, p, dx, _, rfl, (e5.trans e56) _ _ hp, ff_no (by decide +kernel) (by decide +kernel) (by decide +kernel), _, rfl, p, rs, m, rfl, G.mono (e5.trans e56), ok, hm, fun H7 e67 => ?_⟩
        refine rd_of (G.mono ((e5.trans e56).trans e67)) ok hm rfl rfl fun H8 e78 => ?_
        have e58 := (e56.trans e67).trans e78
        intro x dx9 hx9 hdx9 hne9
        refine mk_deed (K := K) (c := "Put") (encD (FM.putOf rs m)) hx9 hdx9 rfl rfl fun H9 e89 hd9 => ⟨rfl, ?_⟩
        have e59 := e58.trans e89
        have hf9 := e59 _ _ hf5
        refine ⟨f, ws, _, rfl, rfl, hf9, szLt (by omega), _, _, rfl, (e5.trans e59).mut hf, ?_, upd_same, ?_⟩
        · rw [upd_ne hlf]; exact e59 _ _ h5
        · rw [take_snoc hki, List.map_append]
          exact DsAt.updL hf9 ((hD5.mono e59).snoc hd9)
      · rintro σ H' ⟨v, ws, rfl, e5, h5, hf5, hD5⟩
        rw [sVs_len, List.take_length, ← hNS] at hD5
        exact ⟨_, ws, rfl, e5, hf5, hD5⟩
    · rintro σ H' ⟨v, ws, rfl, e5, hf5, hD5⟩
      exact ⟨_, rfl, q f ws H' hf e5 hf5 hD5⟩
end
end K13
end
section
set_option Elab.async false
set_option linter.all false
set_option maxRecDepth 100000
set_option maxHeartbeats 4000000
namespace K13
open PySem PySem.Spec PyProof.Rows L2
open Evl (Ex)
section
variable {P : Program} {w : World} {K : PySem.W.Frag} {mg : Str → Option Value} {base : Heap}
theorem undoing_ok (T : Tx K mg) {f : Addr} {fd : FuncData} (F : FunD K "undoing" "undoing" (defArgs st_undoing) (defBody st_undoing) (defScope st_undoing) [] [] f fd) : FnOk P w K mg base (L2.CX P w) 7 f fd ["forest", "deed"] (spUndo K) := by
  refine okX F sc_undoing (fun vs H Q E h => ?_) fun cdv A outer s H vs Q E hr h => ?_
  · obtain ⟨p, rs, x, o, rfl, _⟩ := h; rfl
  · obtain ⟨p, rs, x, o, rfl, G, ok, th, q1, q2⟩ := h
    refine ⟨_, pss_cons (ps_expr (pe_g (ok_check_deed T) hr (passes_call (takes_of rfl rfl rfl rfl) fun _ _ _ _ h => h) (pa_cons (pv 0) (pa_cons (pv 1) pa_nil))))
      (pss_cons (ps_if (pt_cmpR op_in_seq (pe_g (ok_kind_of T) hr pass0 (pa_cons (pv 1) pa_nil)) (pe_glob (v := .ref (He.ga K "NEW")) rfl T.g_NEW rfl) (by rfl))
        (pss_one (ps_ret (pe_lst (pa_cons (pe_ifExp (pt_val (pe_callB call_isi rfl T.z_isinstance b_isinstance (pa_cons (pv 1) (pa_cons (pe_glob (v := .ref (He.ga K "Put")) rfl T.g_Put rfl) pa_nil)))) (pe_k (ok_Cut_init T) hr pass0 (pa_cons (pe_fld (pv 1) rfl) pa_nil)) (pe_k (ok_Lift_init T) hr pass0 (pa_cons (pe_fld (pv 1) rfl) pa_nil))) pa_nil)))) pss_nil)
      (pss_cons (ps_if (pt_val (pe_callB call_isi rfl T.z_isinstance b_isinstance (pa_cons (pv 1) (pa_cons (pe_glob (v := .ref (He.ga K "Reverse")) rfl T.g_Reverse rfl) pa_nil))))
        (pss_one (ps_ret (pe_lst (pa_cons (pe_k (ok_Reverse_init T) hr pass0 (pa_cons (pe_fld (pv 1) rfl) pa_nil)) pa_nil)))) pss_nil)
      (pss_cons (ps_par (i := 2) (j := 3) rfl sc_undoing.nd rfl rfl (by decide) rfl rfl (pa_cons (pe_m T.cl_Forest (ok_parent_of T) hr pass0 (pv 0) (pa_cons (pe_fld (pv 1) rfl) pa_nil)) (pa_cons (pe_m T.cl_Forest (ok_value_of T) hr pass0 (pv 0) (pa_cons (pe_fld (pv 1) rfl) pa_nil)) pa_nil)) (by rfl))
      (pss_cons (ps_if (pt_val (pe_callB call_isi rfl T.z_isinstance b_isinstance (pa_cons (pv 1) (pa_cons (pe_glob (v := .ref (He.ga K "SetValue")) rfl T.g_SetValue rfl) pa_nil))))
        (pss_one (ps_ret (pe_lst (pa_cons (pe_k (ok_SetValue_init T) hr pass0 (pa_cons (pe_fld (pv 1) rfl) (pa_cons (pv 3) pa_nil))) pa_nil)))) pss_nil)
      (pss_cons (ps_if (pt_val (pe_callB call_isi rfl T.z_isinstance b_isinstance (pa_cons (pv 1) (pa_cons (pe_glob (v := .ref (He.ga K "Move")) rfl T.g_Move rfl) pa_nil))))
        (pss_one (ps_ret (pe_lst (pa_cons (pe_k (ok_Move_init T) hr pass0 (pa_cons (pe_fld (pv 1) rfl) (pa_cons (pv 2) (pa_cons (pe_m T.cl_Forest (ok_rank_of T) hr pass0 (pv 0) (pa_cons (pe_fld (pv 1) rfl) pa_nil)) pa_nil)))) pa_nil)))) pss_nil)
      (pss_cons (ps_set (i := 4) sc_undoing.nd rfl (.inl rfl) (pe_callB call_len_seq rfl T.z_len b_len (pa_cons (pe_m T.cl_Forest (ok_children_of T) hr pass0 (pv 0) (pa_cons (pe_fld (pv 1) rfl) pa_nil)) pa_nil)))
      (pss_cons (ps_if (PW.pt (pw_or (pt_val (pe_callB call_isi rfl T.z_isinstance b_isinstance (pa_cons (pv 1) (pa_cons (pe_glob (v := .ref (He.ga K "Cut")) rfl T.g_Cut rfl) pa_nil)))) (pw_or1 (pt_cmpR op_eq (pv 4) pe_int (nomark _)))))
        (pss_one (ps_ret (pe_g (ok_putting T) hr pass0 (pa_cons (pv 0) (pa_cons (pe_fld (pv 1) rfl) pa_nil))))) pss_nil)
      (pss_cons (ps_set (i := 5) sc_undoing.nd rfl (.inl rfl) (pe_m T.cl_Forest (ok_rank_of T) hr pass0 (pv 0) (pa_cons (pe_fld (pv 1) rfl) pa_nil)))
      (pss_one (ps_ret (pe_lst (pa_cons (pe_k (ok_Wrap_init T) hr pass0 (pa_cons (pe_fld (pv 1) rfl) (pa_cons (pv 3) (pa_cons (pv 2) (pa_cons (pv 5) (pa_cons (pe_op op_add (pv 5) (pv 4)) pa_nil)))))) pa_nil)))))))))))), ?_⟩
    refine ⟨_, rfl, _, rfl, p, rs, x, o, rfl, G, ok, th, ?_⟩
    cases hw : whyV rs o with
    | some wd => exact q1 wd hw
    | none =>
    cases o with
    | none => cases hw
    | some d =>
    obtain ⟨D, rfl, hD⟩ := why_none (d := d) hw
    have q2 := q2 D rfl hD
    obtain ⟨a, rfl, hd0, hk⟩ := th
    intro H1 e1
    have q := NewD.mono e1 q2
    have G1 := G.mono e1
    have hd1 := hd0.mono e1
    have hk1 := hk.mono e1
    have th1 := TH.deed hd1 hk1
    have ty := tyD T hd1
    obtain ⟨dx, hd⟩ := id hd1
    obtain ⟨fx, r, o', d', hp⟩ := G1.ins
    have one : ∀ (e : FM.D Str), FM.undoD rs D = [e] → ∀ x H2, H1 x = none → Ex H1 H2 → DeedAt K H2 x (encD e) → ∀ l, H2 l = none → Q (.ref l) (upd H2 l (.lst [.ref x])) := fun e he x H2 hx e12 hde l hl => by
      refine q l [.ref x] _ (Evl.fresh_back e12 hl) (e12.trans (Ex.new hl)) upd_same ?_
      rw [he]
      exact ⟨⟨x, rfl, hde.mono (Ex.new hl)⟩, trivial⟩
    cases D with
    | put n v po r =>
      refine ⟨_, rfl, _, _, rfl, th1, _, _, rfl, .inr (He.tupB_ok T.t_NEW _), rfl, fl_new, _, rfl, iteB (in_new (encD (.put n v po r))) (iteT ?_)⟩
      refine ⟨_, rfl, _, _, _, _, _, rfl, .own _, ty, T.kD_Put _, _, rfl, iteT ⟨_, rfl, a, _, dx, _, _, rfl, hd, T.clD _, T.no_Put_name, fld_nm rfl, ?_⟩⟩
      intro x dx9 hx hdx hne
      refine mk_deed (K := K) (c := "Cut") (encD (.cut n)) hx hdx rfl rfl fun H9 e9 hd9 => ⟨rfl, (by show 1 ≤ sizeLine; decide), fun l hl => ?_⟩
      exact one (.cut n) rfl x H9 hx e9 hd9 l hl
    | wrap n v po f l =>
      refine ⟨_, rfl, _, _, rfl, th1, _, _, rfl, .inr (He.tupB_ok T.t_NEW _), rfl, fl_new, _, rfl, iteB (in_new (encD (.wrap n v po f l))) (iteT ?_)⟩
      refine ⟨_, rfl, _, _, _, _, _, rfl, .own _, ty, T.kD_Put _, _, rfl, iteF ⟨_, rfl, a, _, dx, _, _, rfl, hd, T.clD _, T.no_Wrap_name, fld_nm rfl, ?_⟩⟩
      intro x dx9 hx hdx hne
      refine mk_deed (K := K) (c := "Lift") (encD (.lift n)) hx hdx rfl rfl fun H9 e9 hd9 => ⟨rfl, (by show 1 ≤ sizeLine; decide), fun l hl => ?_⟩
      exact one (.lift n) rfl x H9 hx e9 hd9 l hl
    | rev po =>
      refine ⟨_, rfl, _, _, rfl, th1, _, _, rfl, .inr (He.tupB_ok T.t_NEW _), rfl, fl_new, _, rfl, iteB (in_new (encD (.rev po))) (iteF ?_)⟩
      refine ⟨_, rfl, _, _, _, _, _, rfl, .own _, ty, T.kD_Reverse _, _, rfl, iteT ⟨_, rfl, a, _, dx, _, _, rfl, hd, T.clD _, T.no_Reverse_parent, fld_pr rfl, ?_⟩⟩
      intro x dx9 hx hdx hne
      refine mk_deed (K := K) (c := "Reverse") (encD (.rev po)) hx hdx rfl rfl fun H9 e9 hd9 => ⟨rfl, (by show 1 ≤ sizeLine; decide), fun l hl => ?_⟩
      exact one (.rev po) rfl x H9 hx e9 hd9 l hl
    | setv n v =>
      obtain ⟨h1, h2⟩ := hD
      refine ⟨_, rfl, _, _, rfl, th1, _, _, rfl, .inr (He.tupB_ok T.t_NEW _), rfl, fl_new, _, rfl, iteB (in_new (encD (.setv n v))) (iteF ?_)⟩
      refine ⟨_, rfl, _, _, _, _, _, rfl, .own _, ty, T.kD_Reverse _, _, rfl, iteF ?_⟩
      refine ⟨_, rfl, p, fx, _, rfl, hp, ff_no (by decide +kernel) (by decide +kernel) (by decide +kernel), _, rfl, a, _, dx, _, _, rfl, hd, T.clD _, T.no_SetValue_name, fld_nm rfl, p, rs, n, rfl, G1, ok, h1, fun H2 e12 => ?_⟩
      refine ⟨_, rfl, p, fx, _, rfl, e12 _ _ hp, ff_no (by decide +kernel) (by decide +kernel) (by decide +kernel), _, rfl, a, _, dx, _, _, rfl, e12 _ _ hd, T.clD _, T.no_SetValue_name, fld_nm rfl, p, rs, n, rfl, G1.mono e12, ok, h1, fun H3 e23 => ⟨_, _, rfl, ?_⟩⟩
      have e13 := e12.trans e23
      refine ⟨_, rfl, _, _, _, _, _, rfl, .own _, tyD T (hd1.mono e13), T.kD_SetValue _, _, rfl, iteT ⟨_, rfl, a, _, dx, _, _, rfl, e13 _ _ hd, T.clD _, T.no_SetValue_name, fld_nm rfl, _, rfl, ?_⟩⟩
      intro x dx9 hx hdx hne
      refine mk_deed (K := K) (c := "SetValue") (encD (.setv n (FM.vl rs n))) hx hdx rfl rfl fun H9 e9 hd9 => ⟨rfl, (by show 1 ≤ sizeLine; decide), fun l hl => ?_⟩
      exact one (.setv n (FM.vl rs n)) rfl x H9 (Evl.fresh_back e13 hx) (e13.trans e9) hd9 l hl
    | move n po r =>
      obtain ⟨h1, h2, h3, h4⟩ := hD
      refine ⟨_, rfl, _, _, rfl, th1, _, _, rfl, .inr (He.tupB_ok T.t_NEW _), rfl, fl_new, _, rfl, iteB (in_new (encD (.move n po r))) (iteF ?_)⟩
      refine ⟨_, rfl, _, _, _, _, _, rfl, .own _, ty, T.kD_Reverse _, _, rfl, iteF ?_⟩
      refine ⟨_, rfl, p, fx, _, rfl, hp, ff_no (by decide +kernel) (by decide +kernel) (by decide +kernel), _, rfl, a, _, dx, _, _, rfl, hd, T.clD _, T.no_Move_name, fld_nm rfl, p, rs, n, rfl, G1, ok, h1, fun H2 e12 => ?_⟩
      refine ⟨_, rfl, p, fx, _, rfl, e12 _ _ hp, ff_no (by decide +kernel) (by decide +kernel) (by decide +kernel), _, rfl, a, _, dx, _, _, rfl, e12 _ _ hd, T.clD _, T.no_Move_name, fld_nm rfl, p, rs, n, rfl, G1.mono e12, ok, h1, fun H3 e23 => ⟨_, _, rfl, ?_⟩⟩
      have e13 := e12.trans e23
      refine ⟨_, rfl, _, _, _, _, _, rfl, .own _, tyD T (hd1.mono e13), T.kD_SetValue _, _, rfl, iteF ⟨_, rfl, _, _, _, _, _, rfl, .own _, tyD T (hd1.mono e13), T.kD_Move _, _, rfl, iteT ⟨_, rfl, a, _, dx, _, _, rfl, e13 _ _ hd, T.clD _, T.no_Move_name, fld_nm rfl, _, rfl, ?_⟩⟩⟩
      refine ⟨_, rfl, p, fx, _, rfl, e13 _ _ hp, ff_no (by decide +kernel) (by decide +kernel) (by decide +kernel), _, rfl, a, _, dx, _, _, rfl, e13 _ _ hd, T.clD _, T.no_Move_name, fld_nm rfl, p, rs, n, rfl, G1.mono e13, ok, h1, fun H4 e34 => ?_⟩
      have e14 := e13.trans e34
      intro x dx9 hx hdx hne
      refine mk_deed (K := K) (c := "Move") (encD (.move n (FM.par rs n) (FM.rank rs n))) hx hdx rfl rfl fun H9 e9 hd9 => ⟨rfl, (by show 1 ≤ sizeLine; decide), fun l hl => ?_⟩
      exact one (.move n (FM.par rs n) (FM.rank rs n)) rfl x H9 (Evl.fresh_back e14 hx) (e14.trans e9) hd9 l hl
    | cut n =>
      have h1 : n ∈ FM.names rs := hD
      refine ⟨_, rfl, _, _, rfl, th1, _, _, rfl, .inr (He.tupB_ok T.t_NEW _), rfl, fl_new, _, rfl, iteB (in_new (encD (.cut n))) (iteF ?_)⟩
      refine ⟨_, rfl, _, _, _, _, _, rfl, .own _, ty, T.kD_Reverse _, _, rfl, iteF ?_⟩
      refine ⟨_, rfl, p, fx, _, rfl, hp, ff_no (by decide +kernel) (by decide +kernel) (by decide +kernel), _, rfl, a, _, dx, _, _, rfl, hd, T.clD _, T.no_Cut_name, fld_nm rfl, p, rs, n, rfl, G1, ok, h1, fun H2 e12 => ?_⟩
      refine ⟨_, rfl, p, fx, _, rfl, e12 _ _ hp, ff_no (by decide +kernel) (by decide +kernel) (by decide +kernel), _, rfl, a, _, dx, _, _, rfl, e12 _ _ hd, T.clD _, T.no_Cut_name, fld_nm rfl, p, rs, n, rfl, G1.mono e12, ok, h1, fun H3 e23 => ⟨_, _, rfl, ?_⟩⟩
      have e13 := e12.trans e23
      refine ⟨_, rfl, _, _, _, _, _, rfl, .own _, tyD T (hd1.mono e13), T.kD_SetValue _, _, rfl, iteF ⟨_, rfl, _, _, _, _, _, rfl, .own _, tyD T (hd1.mono e13), T.kD_Move _, _, rfl, iteF ?_⟩⟩
      refine ⟨_, rfl, p, fx, _, rfl, e13 _ _ hp, ff_no (by decide +kernel) (by decide +kernel) (by decide +kernel), _, rfl, a, _, dx, _, _, rfl, e13 _ _ hd, T.clD _, T.no_Cut_name, fld_nm rfl, p, rs, n, rfl, G1.mono e13, ok, h1, fun l H4 hl e34 h4 => ⟨l, _, rfl, .inl (SqL.of h4), ?_⟩⟩
      have e14 := e13.trans e34
      refine ⟨_, rfl, _, _, _, _, _, rfl, .own _, tyD T (hd1.mono e14), T.kD_Cut _, _, rfl, iteT ?_⟩
      exact ⟨_, rfl, _, rfl, a, _, dx, _, _, rfl, e14 _ _ hd, T.clD _, T.no_Cut_name, fld_nm rfl, p, rs, n, rfl, G1.mono e14, ok, h1, NewD.mono e14 q⟩
    | lift n =>
      have h1 : n ∈ FM.names rs := hD
      refine ⟨_, rfl, _, _, rfl, th1, _, _, rfl, .inr (He.tupB_ok T.t_NEW _), rfl, fl_new, _, rfl, iteB (in_new (encD (.lift n))) (iteF ?_)⟩
      refine ⟨_, rfl, _, _, _, _, _, rfl, .own _, ty, T.kD_Reverse _, _, rfl, iteF ?_⟩
      refine ⟨_, rfl, p, fx, _, rfl, hp, ff_no (by decide +kernel) (by decide +kernel) (by decide +kernel), _, rfl, a, _, dx, _, _, rfl, hd, T.clD _, T.no_Lift_name, fld_nm rfl, p, rs, n, rfl, G1, ok, h1, fun H2 e12 => ?_⟩
      refine ⟨_, rfl, p, fx, _, rfl, e12 _ _ hp, ff_no (by decide +kernel) (by decide +kernel) (by decide +kernel), _, rfl, a, _, dx, _, _, rfl, e12 _ _ hd, T.clD _, T.no_Lift_name, fld_nm rfl, p, rs, n, rfl, G1.mono e12, ok, h1, fun H3 e23 => ⟨_, _, rfl, ?_⟩⟩
      have e13 := e12.trans e23
      refine ⟨_, rfl, _, _, _, _, _, rfl, .own _, tyD T (hd1.mono e13), T.kD_SetValue _, _, rfl, iteF ⟨_, rfl, _, _, _, _, _, rfl, .own _, tyD T (hd1.mono e13), T.kD_Move _, _, rfl, iteF ?_⟩⟩
      refine ⟨_, rfl, p, fx, _, rfl, e13 _ _ hp, ff_no (by decide +kernel) (by decide +kernel) (by decide +kernel), _, rfl, a, _, dx, _, _, rfl, e13 _ _ hd, T.clD _, T.no_Lift_name, fld_nm rfl, p, rs, n, rfl, G1.mono e13, ok, h1, fun l H4 hl e34 h4 => ⟨l, _, rfl, .inl (SqL.of h4), ?_⟩⟩
      have e14 := e13.trans e34
      refine ⟨_, rfl, _, _, _, _, _, rfl, .own _, tyD T (hd1.mono e14), T.kD_Cut _, _, rfl, iteF ⟨_, rfl, rfl, _, rfl, ?_⟩⟩
      by_cases h0 : (FM.kidsOf rs (some n)).length = 0
      · refine iteD (by rw [sVs_len, h0]; rfl) ?_
        have hu : FM.undoD rs (.lift n) = FM.putting rs n := if_pos h0
        rw [hu] at q
        exact ⟨_, rfl, _, rfl, a, _, dx, _, _, rfl, e14 _ _ hd, T.clD _, T.no_Lift_name, fld_nm rfl, p, rs, n, rfl, G1.mono e14, ok, h1, NewD.mono e14 q⟩
      · refine iteDn (fun z => h0 (by rw [sVs_len] at z; have := V.int.inj z; omega)) ?_
        have hu : FM.undoD rs (.lift n) = [.wrap n (FM.vl rs n) (FM.par rs n) (FM.rank rs n) (FM.rank rs n + (FM.kidsOf rs (some n)).length)] := if_neg h0
        refine ⟨_, rfl, p, fx, _, rfl, e14 _ _ hp, ff_no (by decide +kernel) (by decide +kernel) (by decide +kernel), _, rfl, a, _, dx, _, _, rfl, e14 _ _ hd, T.clD _, T.no_Lift_name, fld_nm rfl, p, rs, n, rfl, G1.mono e14, ok, h1, fun H5 e45 => ?_⟩
        have e15 := e14.trans e45
        refine ⟨_, rfl, a, _, dx, _, _, rfl, e15 _ _ hd, T.clD _, T.no_Lift_name, fld_nm rfl, _, rfl, _, rfl, _, rfl, _, rfl, _, rfl, _, _, rfl, rfl, ?_⟩
        intro x dx9 hx hdx hne
        refine mk_deed (K := K) (c := "Wrap") (encD (.wrap n (FM.vl rs n) (FM.par rs n) (FM.rank rs n) (FM.rank rs n + (FM.kidsOf rs (some n)).length))) hx hdx (by
          rw [sVs_len]
          show [_, _, _, _, V.int (((FM.rank rs n : Nat) : Int) + ((FM.kidsOf rs (some n)).length : Nat))] = [_, _, _, _, V.int ((FM.rank rs n + (FM.kidsOf rs (some n)).length : Nat) : Int)]
          rw [Int.natCast_add]
          rfl) rfl fun H9 e9 hd9 => ⟨rfl, (by show 1 ≤ sizeLine; decide), fun l hl => ?_⟩
        exact one _ hu x H9 (Evl.fresh_back e15 hx) (e15.trans e9) hd9 l hl
theorem ok_undoing (T : Tx K mg) : GFn P w K mg base "undoing" (L2.CX P w) 7 ["forest", "deed"] (spUndo K) := by
  obtain ⟨fd, F⟩ := T.d_undoing
  exact gfn T.g_undoing F (F.bindsN fun _ _ _ _ _ _ us hl => match us, hl with | [_, _], _ => rfl) (undoing_ok T F)
end
end K13
end
section
set_option Elab.async false
set_option linter.all false
set_option maxRecDepth 100000
set_option maxHeartbeats 4000000
namespace K13
open PySem PySem.Spec PyProof.Rows L2
open Evl (Ex)
theorem for_en {b : Bool} {a : Addr} {xs : List V} {J : It} (S : SkEn b a xs J) {g : TG} {tb : TS} {D : Ends} {σ : L2.St} {H : Hp} (Pv : Nat → L2.St → Hp → Prop) (h0 : Pv 0 σ H) (hl : ∀ i σ H, Pv i σ H → Sk b H a xs)
    (hs : ∀ i x σ H t, xs[i]? = some x → Pv i σ H → H t = none → g (.ref t) σ (upd H t (.tup [.int (i : Nat), x])) fun σ2 H2 => tb { D with nx := Pv (i + 1), ct := Pv (i + 1), bk := D.nx } σ2 H2) (hd : ∀ σ H, Pv xs.length σ H → D.nx σ H) :
    ∃ W : Nat → Nat → L2.St → Hp → Prop, (∃ m, W 0 m σ H) ∧ ∀ i m σ H, W i m σ H →
      (J.stop i H ∧ D.nx σ H) ∨ (J.go i H ∧ ∃ N : L2.St → Hp → Prop, (∀ σ' H', N σ' H' → ∃ m', m' < m ∧ W (i + 1) m' σ' H') ∧ ∀ x H', J.yld i H x H' → g x σ H' fun σ2 H2 => tb { D with nx := N, ct := N, bk := D.nx } σ2 H2) := by
  refine ⟨fun i m σ H => i ≤ xs.length ∧ m = xs.length - i ∧ Pv i σ H, ⟨_, Nat.zero_le _, rfl, h0⟩, fun i m σ H ⟨hi, hm, hP⟩ => ?_⟩
  by_cases he : i = xs.length
  · subst he
    exact .inl ⟨S.stop H (hl _ _ _ hP), hd _ H hP⟩
  · have hlt : i < xs.length := by omega
    refine .inr ⟨S.go i H (hl _ _ _ hP) hlt, Pv (i + 1), fun σ' H' h => ⟨_, by omega, by omega, rfl, h⟩, fun x H' hy => ?_⟩
    obtain ⟨t, y, rfl, hn, rfl, hx⟩ := S.yld i H x H' (hl _ _ _ hP) hy
    exact hs i y σ H t hx hP hn
theorem ForestAt.updL {K : PySem.W.Frag} {H : Hp} {D p : Addr} {rs : FM.Rows Str} {w0 ys : List V} (h : H D = some (.lst w0)) : ForestAt K H p rs → ForestAt K (upd H D (.lst ys)) p rs := fun ⟨dx, r, o, d, vs, kvs, F⟩ =>
  ⟨dx, r, o, d, vs, kvs, by rw [upd_ne (ne_of F.ins h (by intro z; cases z))]; exact F.ins, by rw [upd_ne (ne_of F.rows h (by intro z; cases z))]; exact F.rows, F.at_.updL h, by rw [upd_ne (ne_of F.order h (by intro z; cases z))]; exact F.order, by rw [upd_ne (ne_of F.spots h (by intro z; cases z))]; exact F.spots, F.val⟩
def decD : DV → FM.D Str
  | .put n v p r => .put (nmS n) (intV v) (toPar p) (intV r).toNat
  | .move n p r => .move (nmS n) (toPar p) (intV r).toNat
  | .cut n => .cut (nmS n)
  | .lift n => .lift (nmS n)
  | .wrap n v p f l => .wrap (nmS n) (intV v) (toPar p) (intV f).toNat (intV l).toNat
  | .rev p => .rev (toPar p)
  | .setv n v => .setv (nmS n) (intV v)
theorem dec_enc (D : FM.D Str) : decD (encD D) = D := by
  cases D <;> simp [encD, decD, toPar_opt, nmS, intV]
theorem encD_inj {a b : FM.D Str} (h : encD a = encD b) : a = b := by
  have := congrArg decD h
  rwa [dec_enc, dec_enc] at this
theorem par_field {rs : FM.Rows Str} (ok : Okf rs) {p : Option Str} (h : FM.parOk rs p) {H : Hp} : fieldOk H (optV p) := by
  cases p with
  | none => trivial
  | some n => exact nm_len ok (h n rfl)
theorem nm_field {n : Str} (h : nmOk n) : n.length ≤ 100000 := by
  have := nameOk_len h
  omega
theorem dok {rs : FM.Rows Str} (ok : Okf rs) {D : FM.D Str} (h : FM.okD nmOk vvOk rs D) {H : Hp} : DOk H (encD D) := by
  cases D with
  | put n v p r => exact ⟨nm_field h.1, trivial, par_field ok h.2.2.1, trivial, trivial, trivial⟩
  | move n p r => exact ⟨nm_len ok h.1, trivial, par_field ok h.2.1, trivial, trivial, trivial⟩
  | cut n => exact ⟨nm_len ok h, trivial, trivial, trivial, trivial, trivial⟩
  | lift n => exact ⟨nm_len ok h, trivial, trivial, trivial, trivial, trivial⟩
  | wrap n v p f l => exact ⟨nm_field h.1, trivial, par_field ok h.2.2.1, trivial, trivial, trivial⟩
  | rev p => exact ⟨trivial, trivial, par_field ok h, trivial, trivial, trivial⟩
  | setv n v => exact ⟨nm_len ok h.1, trivial, trivial, trivial, trivial, trivial⟩
def spPlayed (K : PySem.W.Frag) : Sp := fun vs H Q _ => ∃ p rs a xs ds rs', vs = [.ref p, .ref a] ∧ ForestAt K H p rs ∧ Okf rs ∧ H a = some (.lst xs) ∧ DsAt K H xs ds ∧ ds.length ≤ 100 ∧ FM.Plays nmOk vvOk rs ds rs' ∧
  ∀ l ys q H', H l = none → Ex H H' → H' l = some (.lst (ys ++ [.ref q])) → ys.length = ds.length → (ys ++ [.ref q])[0]? = some (.ref p) → ForestAt K H' q rs' → Okf rs' → Q (.ref l) H'
section
variable {P : Program} {w : World} {K : PySem.W.Frag} {mg : Str → Option Value} {base : Heap}
theorem ok_played (T : Tx K mg) : GFn P w K mg base "played" CX0 9 ["forest", "deeds"] (spPlayed K) := by
  obtain ⟨fd, F⟩ := T.d_played
  refine gfn T.g_played F (F.bindsN fun _ _ _ _ _ _ us hl => match us, hl with | [_, _], _ => rfl) (ok0 F sc_played (fun vs H Q E h => ?_) fun cdv A outer s H vs Q E hr h => ?_)
  · obtain ⟨p, rs, a, xs, ds, rs', rfl, _⟩ := h; rfl
  · obtain ⟨p, rs, a, xs, ds, rs', rfl, G, ok, ha, hDs, hz, hpl, q⟩ := h
    refine ⟨_, pss_cons (ps_if (pt_not (pt_val (pe_g (ok_is_sequence T) hr pass0 (pa_cons (pv 1) pa_nil)))) (pss_one ps_never) pss_nil)
      (pss_cons (ps_set (i := 2) sc_played.nd rfl (.inl rfl) (pe_lst (pa_cons (pv 0) pa_nil)))
      (Evl.pss_cut (ps_for PassesOwn.never rfl (pi_enumA rfl T.z_enumerate (pa_cons (pv 1) pa_nil)) (pg_tup rfl (pgs_cons (pg_name (i := 3) sc_played.nd rfl (.inl rfl)) (pgs_cons (pg_name (i := 4) sc_played.nd rfl (.inl rfl)) pgs_nil)))
        (pss_cons (ps_try_thru0 (pss_one (ps_expr (pe_g (ok_check_deed T) hr passF (pa_cons (pe_ix ix_list (pv 2) (pe_un un_neg pe_int) (fun _ _ => rfl)) (pa_cons (pv 4) pa_nil))))))
        (pss_one (ps_expr (pe_bm PySem.F.plainAttrs_list PySem.F.slot_list_append PySem.F.type_list_append mt_append (pv 2) (pa_cons (pe_g (ok_done T) hr passF (pa_cons (pe_ix ix_list (pv 2) (pe_un un_neg pe_int) (fun _ _ => rfl)) (pa_cons (pv 4) pa_nil))) pa_nil))))))
      (pss_one (ps_ret (pv 2))))), ?_⟩
    have hxs := hDs.len
    refine ⟨_, rfl, true, a, xs, rfl, Sk.l ha, fun H1 e1 => ⟨_, rfl, iteF ⟨_, rfl, (by show 1 ≤ sizeLine; decide), fun f hf => ?_⟩⟩⟩
    have e12 := Ex.new (o := .lst [.ref p]) hf
    have e2 := e1.trans e12
    have hfn := Evl.fresh_back e1 hf
    refine ⟨fun σ H' => ∃ v3 v4 v5, σ = [some (.ref p), some (.ref a), some (.ref f), v3, v4, v5] ∧ Ex H H' ∧ ∃ ys q', H' f = some (.lst (ys ++ [.ref q'])) ∧ ys.length = ds.length ∧ (ys ++ [.ref q'])[0]? = some (.ref p) ∧ ForestAt K H' q' rs' ∧ Okf rs', ?_, ?_⟩
    · refine ⟨_, rfl, a, true, xs, rfl, Sk.l (e2 _ _ ha), fun J S => ?_⟩
      refine for_en S (fun i σ H' => ∃ v3 v4 v5, σ = [some (.ref p), some (.ref a), some (.ref f), v3, v4, v5] ∧ Ex H H' ∧ ∃ ys q' ri, H' f = some (.lst (ys ++ [.ref q'])) ∧ ys.length = i ∧ (ys ++ [.ref q'])[0]? = some (.ref p) ∧ ForestAt K H' q' ri ∧ Okf ri ∧ FM.Plays nmOk vvOk ri (ds.drop i) rs')
        ⟨none, none, none, rfl, e2, [], p, rs, upd_same, rfl, rfl, G.mono e2, ok, hpl⟩ ?_ ?_ ?_
      · rintro i σ H' ⟨v3, v4, v5, rfl, e, _⟩
        exact Sk.l (e _ _ ha)
      · rintro i x σ H' t hx ⟨v3, v4, v5, rfl, e3, ys, q', ri, hf3, hy, h0, hF, oki, hP⟩ ht
        obtain ⟨d, ad, hdi, rfl, hde⟩ := hDs.get hx
        rw [drop_at hdi] at hP
        obtain ⟨hok, hP⟩ := hP
        have hi : i < ds.length := (List.getElem?_eq_some_iff.mp hdi).1
        have e34 := Ex.new (o := .tup [.int (i : Nat), .ref ad]) ht
        have e4 := e3.trans e34
        refine ⟨t, _, rfl, SqT.of upd_same, rfl, _, _, rfl, _, _, rfl, rfl, ?_⟩
        have hf4 := e34 _ _ hf3
        have hF4 := hF.mono e34
        have hd4 := hde.mono e4
        generalize upd H' t (.tup [.int (i : Nat), .ref ad]) = H4 at e34 e4 hf4 hF4 hd4
        have hwv : whyV ri (some (encD d)) = none := why_ok hok
        refine ⟨_, rfl, _, rfl, f, _, -1, _, rfl, rfl, SqL.of hf4, atI_last _ _, _, rfl, q', ri, .ref ad, some (encD d), rfl, hF4, oki, TH.deed hd4 (dok oki hok), ?_⟩
        rw [hwv]
        intro H5 e45
        refine ⟨_, rfl, .inl ⟨rfl, _, SqL.of (e45 _ _ hf4)⟩, _, rfl, _, rfl, f, _, -1, _, rfl, rfl, SqL.of (e45 _ _ hf4), atI_last _ _, _, rfl, q', ri, .ref ad, some (encD d), rfl, hF4.mono e45, oki, TH.deed (hd4.mono e45) (dok oki hok), fun wd hwd => (by rw [hwv] at hwd; cases hwd), fun D hD hokD => ?_⟩
        intro q2 H6 hq2 e56 hF6
        have hDd : FM.doneD ri D = FM.doneD ri d := by rw [encD_inj (Option.some.inj hD)]
        rw [hDd] at hF6
        have hf6 := (e45.trans e56) _ _ hf4
        refine ⟨f, _, _, rfl, rfl, hf6, szLt (by rw [List.length_append, hy]; show i + 1 < _; omega), ?_⟩
        refine ⟨_, _, _, rfl, (e4.trans (e45.trans e56)).mut hfn, ys ++ [.ref q'], q2, FM.doneD ri d, upd_same, by rw [List.length_append, hy]; rfl, ?_, hF6.updL hf6, (FM.main oki hok).1, hP⟩
        rw [List.getElem?_append_left (by rw [List.length_append]; exact Nat.succ_pos _)]
        exact h0
      · rintro σ H' ⟨v3, v4, v5, rfl, e3, ys, q', ri, hf3, hy, h0, hF, oki, hP⟩
        rw [hxs, List.drop_length] at hP
        have hP : ri = rs' := hP
        subst hP
        exact ⟨_, _, _, rfl, e3, ys, q', hf3, by rw [hy, hxs], h0, hF, oki⟩
    · rintro σ H' ⟨v3, v4, v5, rfl, e3, ys, q', hf3, hy, h0, hF, oki⟩
      exact ⟨_, rfl, q f ys q' H' hfn e3 hf3 hy h0 hF oki⟩
end
end K13
end
section
set_option Elab.async false
set_option linter.all false
set_option maxRecDepth 100000
set_option maxHeartbeats 4000000
namespace K13
open PySem PySem.Spec PyProof.Rows L2
open Evl (Ex)
/-! ## the source of draws -/
/-- but for the well at W, all is as it was, and more -/
abbrev Wx (W : Addr) (H H' : Hp) : Prop := Ex (del H W) (del H' W)
theorem Wx.refl {W : Addr} {H : Hp} : Wx W H H := Ex.refl _
theorem Wx.trans {W : Addr} {H H1 H2 : Hp} (a : Wx W H H1) (b : Wx W H1 H2) : Wx W H H2 := Ex.trans a b
theorem Wx.of {W : Addr} {H H' : Hp} (e : Ex H H') : Wx W H H' := del_ex e
theorem Wx.put {W : Addr} {H : Hp} {o : HO} : Wx W H (upd H W o) := by show Ex _ (del (upd H W o) W); rw [del_upd]; exact Ex.refl _
/-- what stands beside the well -/
theorem del_of {W a : Addr} {H : Hp} {o : HO} (h : del H W a = some o) : H a = some o ∧ a ≠ W := by
  by_cases e : a = W
  · rw [e, del_same] at h; cases h
  · rw [del_ne e] at h
    exact ⟨h, e⟩
theorem del_in {W a : Addr} {H : Hp} {o : HO} (h : H a = some o) (e : a ≠ W) : del H W a = some o := by rw [del_ne e]; exact h
/-- a new address beside the well -/
theorem Wx.fresh {W a : Addr} {H H' : Hp} (e : Wx W H H') (hw : H' W ≠ none) (h : H' a = none) : del H W a = none := by
  cases hd : del H W a with
  | none => rfl
  | some o =>
    have := del_of (e _ _ hd)
    rw [this.1] at h
    cases h
def WellAt (H : Hp) (W : Addr) (c : Nat) : Prop := ∃ a b k : Int, H W = some (.lst [.int a, .int b, .int k]) ∧ 0 ≤ a ∧ 0 ≤ b ∧ b < 2147483629 ∧ 0 ≤ k ∧ k ≤ (c : Int)
theorem WellAt.mono {H H' : Hp} {W : Addr} {c : Nat} (e : Ex H H') : WellAt H W c → WellAt H' W c := fun ⟨a, b, k, h, r⟩ => ⟨a, b, k, e _ _ h, r⟩
theorem WellAt.le {H : Hp} {W : Addr} {c d : Nat} (h : c ≤ d) : WellAt H W c → WellAt H W d := fun ⟨a, b, k, e, r1, r2, r3, r4, r5⟩ => ⟨a, b, k, e, r1, r2, r3, r4, by omega⟩
theorem WellAt.ne {H : Hp} {W : Addr} {c : Nat} : WellAt H W c → H W ≠ none := fun ⟨a, b, k, e, _⟩ z => by rw [e] at z; cases z
/-- a new object beside the well -/
theorem WellAt.new {H : Hp} {W p : Addr} {c : Nat} {o : HO} (h : WellAt H W c) (hp : H p = none) : WellAt (upd H p o) W c := h.mono (Ex.new hp)
theorem WellAt.np {H : Hp} {W p : Addr} {c : Nat} (h : WellAt H W c) (hp : H p = none) : p ≠ W := fun z => h.ne (by rw [← z]; exact hp)
/-- what a promise with a well hands on -/
abbrev Wn (W : Addr) (c : Nat) (H : Hp) (R : V → Hp → Prop) (Q : VK) : Prop := ∀ v H', Wx W H H' → WellAt H' W c → R v H' → Q v H'
def spWell : Sp := fun vs H Q _ => ∃ c, vs = [.int c] ∧ ∀ W, H W = none → ∀ H', Ex H H' → WellAt H' W 0 → Q (.ref W) H'
def spDraw : Sp := fun vs H Q _ => ∃ (W : Addr) (m c : Nat), vs = [.ref W, .int ((m : Nat) : Int)] ∧ WellAt H W c ∧ c ≤ 100000 ∧ 0 < m ∧ m ≤ 1000000000000000 ∧ Wn W (c + 1) H (fun v _ => ∃ d : Nat, v = .int ((d : Nat) : Int) ∧ d < m) Q
section
variable {P : Program} {w : World} {K : PySem.W.Frag} {mg : Str → Option Value} {base : Heap}
theorem ok_well (T : Tx K mg) : GFn P w K mg base "_law_well" CX0 1 ["_law_cell"] spWell := by
  obtain ⟨fd, F⟩ := T.d_law_well
  refine gfn T.g_law_well F (F.bindsN fun _ _ _ _ _ _ us hl => match us, hl with | [_], _ => rfl) (ok0 F sc_law_well (fun vs H Q E h => ?_) fun cdv A outer s H vs Q E hr h => ?_)
  · obtain ⟨c, rfl, _⟩ := h; rfl
  · obtain ⟨c, rfl, q⟩ := h
    refine ⟨_, pss_one (ps_ret (pe_lst (pa_cons (pe_op op_mul (pv 0) (pe_callTy call_int1 rfl T.z_int b_int (pa_cons (pe_cmpR op_ge (pv 0) (pe_op op_pow pe_int pe_int) (nomark _)) pa_nil))) (pa_cons (pe_op op_mod (pe_callTy call_int1 rfl T.z_int b_int (pa_cons (pv 0) pa_nil)) pe_int) (pa_cons pe_int pa_nil))))), ?_⟩
    refine ⟨_, rfl, _, rfl, _, _, rfl, rfl, ⟨by decide, by decide, by decide⟩, _, _, rfl, rfl, .inr ⟨_, rfl, ?_⟩⟩
    have fin : ∀ z : Int, 0 ≤ z → ∀ W, H W = none → Q (.ref W) (upd H W (.lst [.int z, .int (c % 2147483629), .int 0])) := fun z hz W hW =>
      q W hW _ (Ex.new hW) ⟨z, c % 2147483629, 0, upd_same, hz, Int.emod_nonneg _ (by decide), Int.emod_lt_of_pos _ (by decide), by decide, by decide⟩
    refine ⟨c, _, rfl, rfl, .inr ?_, _, rfl, .inl ⟨_, rfl, _, _, rfl, rfl, (by show (0 : Int) < _; decide), (by show 3 ≤ sizeLine; decide), fin _ ?_⟩⟩
    · by_cases h : (10 : Int) ^ (18 : Int).toNat ≤ c
      · rw [decide_eq_true h]; exact ⟨by decide, by decide⟩
      · rw [decide_eq_false h]; exact ⟨by decide, by decide⟩
    · by_cases h : (10 : Int) ^ (18 : Int).toNat ≤ c
      · rw [decide_eq_true h]
        have : (0 : Int) ≤ (10 : Int) ^ (18 : Int).toNat := by decide
        show 0 ≤ c * 1
        omega
      · rw [decide_eq_false h]
        show 0 ≤ c * 0
        omega
theorem ok_draw (T : Tx K mg) : GFn P w K mg base "_law_draw" CX0 1 ["_law_well_here", "_law_many"] spDraw := by
  obtain ⟨fd, F⟩ := T.d_law_draw
  refine gfn T.g_law_draw F (F.bindsN fun _ _ _ _ _ _ us hl => match us, hl with | [_, _], _ => rfl) (ok0 F sc_law_draw (fun vs H Q E h => ?_) fun cdv A outer s H vs Q E hr h => ?_)
  · obtain ⟨W, m, c, rfl, _⟩ := h; rfl
  · obtain ⟨W, m, c, rfl, ⟨a, b, k, hW, ha, hb, hb2, hk, hkc⟩, hc, hm, hm2, q⟩ := h
    refine ⟨_, pss_cons (ps_if (pt_cmpR op_gt (pe_ix ix_list (pv 0) pe_int (fun _ _ => rfl)) pe_int (nomark _))
        (pss_cons (ps_set (i := 2) sc_law_draw.nd rfl (.inl rfl) (pe_op op_mod (pe_callTy call_int1 rfl T.z_int b_int (pa_cons (pe_ix ix_list (pv 0) pe_int (fun _ _ => rfl)) pa_nil)) (pv 1)))
        (pss_cons (ps_asg (pe_op op_fdivW (pe_ix ix_list (pv 0) pe_int (fun _ _ => rfl)) (pv 1)) (pg_sub (pv 0) pe_int set_list))
        (pss_one (ps_ret (pv 2))))) pss_nil)
      (pss_cons (ps_asg (pe_op op_add (pe_ix ix_list (pv 0) pe_int (fun _ _ => rfl)) pe_int) (pg_sub (pv 0) pe_int set_list))
      (pss_cons (ps_set (i := 3) sc_law_draw.nd rfl (.inl rfl) (pe_op op_mod (pe_callTy call_int1 rfl T.z_int b_int (pa_cons (pe_op op_pow (pe_op op_add (pe_op op_add (pe_ix ix_list (pv 0) pe_int (fun _ _ => rfl)) (pe_op op_mul pe_int (pe_ix ix_list (pv 0) pe_int (fun _ _ => rfl)))) pe_int) pe_int) pa_nil)) pe_int))
      (pss_cons (ps_set (i := 3) sc_law_draw.nd rfl (.inl rfl) (pe_op op_mod (pe_callTy call_int1 rfl T.z_int b_int (pa_cons (pe_op op_mul (pe_op op_add (pv 3) (pe_ix ix_list (pv 0) pe_int (fun _ _ => rfl))) (pe_op op_add (pe_op op_fdiv (pv 3) pe_int) pe_int)) pa_nil)) pe_int))
      (pss_one (ps_ret (pe_op op_mod (pe_callTy call_int1 rfl T.z_int b_int (pa_cons (pe_op op_fdiv (pe_op op_mod (pe_callTy call_int1 rfl T.z_int b_int (pa_cons (pe_op op_mul (pv 3) (pe_op op_add (pe_op op_fdiv (pv 3) pe_int) pe_int)) pa_nil)) pe_int) pe_int) pa_nil)) (pv 1))))))), ?_⟩
    have hmi : (0 : Int) < ((m : Nat) : Int) := by omega
    have fin : ∀ z : Int, ∃ d : Nat, V.int (z % ((m : Nat) : Int)) = .int ((d : Nat) : Int) ∧ d < m := fun z => by
      have h1 := Int.emod_nonneg z (show ((m : Nat) : Int) ≠ 0 by omega)
      have h2 := Int.emod_lt_of_pos z hmi
      exact ⟨(z % ((m : Nat) : Int)).toNat, by rw [Int.toNat_of_nonneg h1], by omega⟩
    have at0 : atI [V.int a, .int b, .int k] 0 = some (.int a) := rfl
    refine ⟨_, rfl, W, _, 0, _, rfl, rfl, SqL.of hW, at0, _, _, rfl, rfl, _, rfl, ?_⟩
    by_cases h : (0 : Int) < a
    · refine iteD h ⟨_, rfl, W, _, 0, _, rfl, rfl, SqL.of hW, at0, .inl ⟨_, rfl, _, rfl, _, _, rfl, rfl, hmi, ?_⟩⟩
      have hq : 0 ≤ a / ((m : Nat) : Int) := Int.ediv_nonneg ha (by omega)
      refine ⟨_, rfl, W, _, 0, _, rfl, rfl, SqL.of hW, at0, _, rfl, _, _, rfl, rfl, wide_div (b := 64) hmi (by omega) (by decide) (by decide), _, rfl, W, _, 0, 0, rfl, rfl, hW, rfl, _, rfl, ?_⟩
      exact q _ _ Wx.put ⟨a / ((m : Nat) : Int), b, k, upd_same, hq, hb, hb2, hk, by omega⟩ (fin a)
    · refine iteDn h ?_
      have at1 : atI [V.int a, .int b, .int (k + 1)] 1 = some (.int b) := rfl
      have at2 : atI [V.int a, .int b, .int (k + 1)] 2 = some (.int (k + 1)) := rfl
      refine ⟨_, rfl, W, _, 2, _, rfl, rfl, SqL.of hW, rfl, _, _, rfl, rfl, _, rfl, W, _, 2, 2, rfl, rfl, hW, rfl, ?_⟩
      have hW2 : upd H W (.lst [.int a, .int b, .int (k + 1)]) W = some (.lst [.int a, .int b, .int (k + 1)]) := upd_same
      have q2 := fun z => q _ (upd H W (.lst [.int a, .int b, .int (k + 1)])) Wx.put ⟨a, b, k + 1, upd_same, ha, hb, hb2, by omega, by omega⟩ (fin z)
      show tSeq _ _ _ _ (upd H W (.lst [.int a, .int b, .int (k + 1)]))
      generalize upd H W (.lst [.int a, .int b, .int (k + 1)]) = H2 at hW2 q2
      refine ⟨_, rfl, W, _, 1, _, rfl, rfl, SqL.of hW2, at1, _, rfl, W, _, 2, _, rfl, rfl, SqL.of hW2, at2, _, _, rfl, rfl, .inl ⟨by decide, by decide⟩, _, _, rfl, rfl, _, _, rfl, rfl, _, _, rfl, rfl, ⟨by decide, by decide, by omega⟩, .inl ⟨_, rfl, _, _, rfl, rfl, (by show (0 : Int) < _; decide), ?_⟩⟩
      generalize hx : ((b + 50021 * (k + 1) + 17) ^ (3 : Int).toNat) % 2147483647 = x
      have hx0 : 0 ≤ x := by rw [← hx]; exact Int.emod_nonneg _ (by decide)
      have hx1 : x < 2147483647 := by rw [← hx]; exact Int.emod_lt_of_pos _ (by decide)
      refine ⟨_, rfl, _, rfl, W, _, 2, _, rfl, rfl, SqL.of hW2, at2, _, _, rfl, rfl, _, rfl, _, _, rfl, rfl, ⟨by decide, by decide⟩, _, _, rfl, rfl, _, _, rfl, rfl, .inl ⟨by omega, by omega⟩, .inl ⟨_, rfl, _, _, rfl, rfl, (by show (0 : Int) < _; decide), ?_⟩⟩
      generalize hy : ((x + (k + 1)) * (x / 1021 + 69621)) % 2147483587 = y
      have hy0 : 0 ≤ y := by rw [← hy]; exact Int.emod_nonneg _ (by decide)
      have hy1 : y < 2147483587 := by rw [← hy]; exact Int.emod_lt_of_pos _ (by decide)
      exact ⟨_, rfl, _, rfl, _, _, rfl, rfl, ⟨by decide, by decide⟩, _, _, rfl, rfl, _, _, rfl, rfl, .inl ⟨by omega, by omega⟩, .inl ⟨_, rfl, _, _, rfl, rfl, (by show (0 : Int) < _; decide), _, _, rfl, rfl, ⟨by decide, by decide⟩, .inl ⟨_, rfl, _, rfl, _, _, rfl, rfl, hmi, q2 _⟩⟩⟩
end
end K13
end
section
set_option Elab.async false
set_option linter.all false
set_option maxRecDepth 100000
set_option maxHeartbeats 4000000
namespace K13
open PySem PySem.Spec PyProof.Rows L2
open Evl (Ex)
def spOne : Sp := fun vs H Q _ => ∃ (W : Addr) (c : Nat) (x : V), vs = [.ref W, x] ∧ WellAt H W c ∧ c ≤ 90000 ∧
  ((∃ a xs, x = .ref a ∧ del H W a = some (.lst xs) ∧ xs ≠ [] ∧ xs.length ≤ 1000 ∧ Wn W (c + 1) H (fun v _ => v ∈ xs) Q) ∨
    ∃ z : Str, x = .str z ∧ 0 < z.length ∧ z.length ≤ 1000 ∧ Wn W (c + 1) H (fun v _ => ∃ u, v = .str ⟨#[u]⟩ ∧ u ∈ z.cps.toList) Q)
/-! ## names by their signs -/
abbrev cl (s : Str) : List Nat := s.cps.toList
theorem cl_app (s t : Str) : cl (s ++ t) = cl s ++ cl t := by
  show (s.cps ++ t.cps).toList = _
  simp
theorem cl_one (u : Nat) : cl ⟨#[u]⟩ = [u] := rfl
theorem cl_len (s : Str) : (cl s).length = s.length := by
  show s.cps.toList.length = s.cps.size
  simp
theorem cl_ext {s t : Str} (h : cl s = cl t) : s = t := by
  obtain ⟨⟨a⟩⟩ := s
  obtain ⟨⟨b⟩⟩ := t
  have h : a = b := h
  rw [h]
structure NmL (l : List Nat) : Prop where
  l1 : 1 ≤ l.length
  l8 : l.length ≤ 8
  hd : l.headD 0 ∈ letters
  sg : ∀ u ∈ l, u ∈ signs
theorem nameOk_of {s : Str} (h : NmL (cl s)) : nameOk s = true := by
  unfold nameOk
  rw [decide_eq_true (by rw [← cl_len]; exact h.l1), decide_eq_true (by rw [← cl_len]; exact h.l8), decide_eq_true h.hd]
  exact List.all_eq_true.mpr fun u hu => decide_eq_true (h.sg u hu)
theorem of_nameOk {s : Str} (h : nameOk s = true) : NmL (cl s) := by
  unfold nameOk at h
  obtain ⟨h1, h⟩ := He.ba h
  obtain ⟨h2, h⟩ := He.ba h
  obtain ⟨h3, h4⟩ := He.ba h
  exact ⟨by rw [cl_len]; exact of_decide_eq_true h1, by rw [cl_len]; exact of_decide_eq_true h2, of_decide_eq_true h3, fun u hu => of_decide_eq_true (List.all_eq_true.mp h4 u hu)⟩
/-- it is none of q0, q1, .. -/
def qf (l : List Nat) : Prop := l.headD 0 ≠ 113 ∨ ∃ x, x ∈ l.tail ∧ x ∈ letters
def qn (k : Nat) : Str := "q" ++ Str.ofString (toString ((k : Nat) : Int))
abbrev s25 : Str := "abcdefghijklmnoprstuvwxyz"
theorem f25 : ∀ u ∈ cl s25, u ∈ letters ∧ u ∈ signs ∧ u ≠ 113 := by decide +kernel
theorem f36 : ∀ u ∈ cl (s25 ++ "q0123456789"), u ∈ signs := by decide +kernel
theorem q_ok : ∀ k ∈ List.range 31, nameOk (qn k) = true := by decide +kernel
theorem q_inj : ∀ j ∈ List.range 31, ∀ k ∈ List.range 31, qn j = qn k → j = k := by decide +kernel
theorem q_dig : ∀ k ∈ List.range 31, (cl (qn k)).headD 0 = 113 ∧ ∀ x ∈ (cl (qn k)).tail, x ∉ letters := by decide +kernel
theorem qf_ne {s : Str} (h : qf (cl s)) {k : Nat} (hk : k < 31) : s ≠ qn k := fun e => by
  have hq := q_dig k (List.mem_range.mpr hk)
  rw [← e] at hq
  rcases h with h | ⟨x, h1, h2⟩
  · exact h hq.1
  · exact hq.2 x h1 h2
/-- a name as the law draws it, the k-th -/
def NmQ (k : Nat) (s : Str) : Prop := nameOk s = true ∧ (qf (cl s) ∨ ∃ j, j < k ∧ s = qn j)
theorem NmQ.le {k m : Nat} {s : Str} (h : k ≤ m) : NmQ k s → NmQ m s := fun ⟨a, b⟩ => ⟨a, b.imp id fun ⟨j, h1, h2⟩ => ⟨j, by omega, h2⟩⟩
theorem q_new {k : Nat} (hk : k < 31) {l : List Str} (h : ∀ s ∈ l, NmQ k s) : qn k ∉ l := fun hm => by
  rcases (h _ hm).2 with q | ⟨j, hj, e⟩
  · exact qf_ne q hk rfl
  · have := q_inj k (List.mem_range.mpr hk) j (List.mem_range.mpr (by omega)) e
    omega
/-- a name with another sign at a place -/
theorem nm_mut {e : Str} {i u : Nat} (h : nameOk e = true) (hi : i < e.length) (hu : u ∈ cl s25) : nameOk (cutS e none (some ((i : Nat) : Int)) ++ (⟨#[u]⟩ : Str) ++ cutS e (some (((i : Nat) : Int) + 1)) none) = true ∧ qf (cl (cutS e none (some ((i : Nat) : Int)) ++ (⟨#[u]⟩ : Str) ++ cutS e (some (((i : Nat) : Int) + 1)) none)) := by
  have N := of_nameOk h
  obtain ⟨u1, u2, u3⟩ := f25 u hu
  have el : (cl e).length = e.length := cl_len e
  have e1 : cl (cutS e none (some ((i : Nat) : Int))) = (cl e).take i := by
    show ((cl e).drop (HT.sIx e.length 0 none)).take (HT.sIx e.length e.length (some ((i : Nat) : Int)) - HT.sIx e.length 0 none) = _
    rw [HT.sIx_none, HT.sIx_nat, List.drop_zero, Nat.sub_zero, Nat.min_eq_left (by omega)]
  have e2 : cl (cutS e (some (((i : Nat) : Int) + 1)) none) = (cl e).drop (i + 1) := by
    show ((cl e).drop (HT.sIx e.length 0 (some (((i : Nat) : Int) + 1)))).take (HT.sIx e.length e.length none - HT.sIx e.length 0 (some (((i : Nat) : Int) + 1))) = _
    rw [show ((i : Nat) : Int) + 1 = ((i + 1 : Nat) : Int) by omega, HT.sIx_none, HT.sIx_nat, Nat.min_eq_left (by omega), List.take_of_length_le (by rw [List.length_drop]; omega)]
  have ec : cl (cutS e none (some ((i : Nat) : Int)) ++ (⟨#[u]⟩ : Str) ++ cutS e (some (((i : Nat) : Int) + 1)) none) = (cl e).take i ++ [u] ++ (cl e).drop (i + 1) := by
    rw [cl_app, cl_app, e1, e2]
  have hlen : ((cl e).take i ++ [u] ++ (cl e).drop (i + 1)).length = (cl e).length := by
    rw [List.length_append, List.length_append, List.length_take, List.length_drop, Nat.min_eq_left (by omega)]
    show i + 1 + _ = _
    omega
  have hsg : ∀ x ∈ (cl e).take i ++ [u] ++ (cl e).drop (i + 1), x ∈ signs := fun x hx => by
    rcases List.mem_append.mp hx with hx | hx
    · rcases List.mem_append.mp hx with hx | hx
      · exact N.sg x (List.mem_of_mem_take hx)
      · rw [List.mem_singleton.mp hx]; exact u2
    · exact N.sg x (List.mem_of_mem_drop hx)
  have hh : ((cl e).take i ++ [u] ++ (cl e).drop (i + 1)).headD 0 ∈ letters ∧ qf ((cl e).take i ++ [u] ++ (cl e).drop (i + 1)) := by
    cases i with
    | zero => exact ⟨u1, .inl u3⟩
    | succ i =>
      have hd := N.hd
      cases hc : cl e with
      | nil => rw [hc] at el; simp at el; omega
      | cons a t =>
        rw [hc] at hd
        refine ⟨hd, .inr ⟨u, ?_, u1⟩⟩
        show u ∈ t.take i ++ [u] ++ _
        simp
  refine ⟨nameOk_of ?_, by rw [ec]; exact hh.2⟩
  rw [ec]
  exact ⟨by rw [hlen]; exact N.l1, by rw [hlen]; exact N.l8, hh.1, hsg⟩
theorem nm_grow {s : Str} {u : Nat} (h : nameOk s = true) (hq : (cl s).headD 0 ≠ 113) (hl : s.length < 8) (hu : u ∈ signs) : nameOk (s ++ (⟨#[u]⟩ : Str)) = true ∧ (cl (s ++ (⟨#[u]⟩ : Str))).headD 0 ≠ 113 ∧ (s ++ (⟨#[u]⟩ : Str)).length = s.length + 1 := by
  have N := of_nameOk h
  have el : (cl s).length = s.length := cl_len s
  have ec : cl (s ++ (⟨#[u]⟩ : Str)) = cl s ++ [u] := cl_app s ⟨#[u]⟩
  have hh : (cl s ++ [u]).headD 0 = (cl s).headD 0 := by
    cases hc : cl s with
    | nil => have := N.l1; rw [hc] at this; simp at this
    | cons a t => rfl
  refine ⟨nameOk_of ?_, by rw [ec, hh]; exact hq, by rw [← cl_len, ec, List.length_append, el]; rfl⟩
  rw [ec]
  refine ⟨by rw [List.length_append]; simp, by rw [List.length_append, el]; show _ + 1 ≤ 8; omega, by rw [hh]; exact N.hd, fun x hx => ?_⟩
  rcases List.mem_append.mp hx with hx | hx
  · exact N.sg x hx
  · rw [List.mem_singleton.mp hx]; exact hu
section
variable {P : Program} {w : World} {K : PySem.W.Frag} {mg : Str → Option Value} {base : Heap}
theorem ok_one (T : Tx K mg) : GFn P w K mg base "_law_one" CX0 2 ["_law_well_here", "_law_some"] spOne := by
  obtain ⟨fd, F⟩ := T.d_law_one
  refine gfn T.g_law_one F (F.bindsN fun _ _ _ _ _ _ us hl => match us, hl with | [_, _], _ => rfl) (ok0 F sc_law_one (fun vs H Q E h => ?_) fun cdv A outer s H vs Q E hr h => ?_)
  · obtain ⟨W, c, x, rfl, _⟩ := h; rfl
  · obtain ⟨W, c, x, rfl, hW, hc, h⟩ := h
    refine ⟨_, pss_one (ps_ret (pe_ix ix_seq (pv 1) (pe_g (ok_draw T) hr pass0 (pa_cons (pv 0) (pa_cons (pe_callB (call_len_seq.or call_len_str) rfl T.z_len b_len (pa_cons (pv 1) pa_nil)) pa_nil))) (fun _ _ => rfl))), ?_⟩
    rcases h with ⟨a, xs, rfl, ha, hne, hl, q⟩ | ⟨z, rfl, h0, hl, q⟩
    · have h0 : 0 < xs.length := List.length_pos_iff.mpr hne
      obtain ⟨ha1, haw⟩ := del_of ha
      refine ⟨_, rfl, _, rfl, _, rfl, .inl ⟨a, xs, rfl, .inl (SqL.of ha1), W, xs.length, c, rfl, hW, by omega, h0, by omega, fun v H1 e1 hW1 hv => ?_⟩⟩
      obtain ⟨d, rfl, hd⟩ := hv
      have ha2 := del_of (e1 _ _ ha)
      have hx : xs[d]? = some xs[d] := List.getElem?_eq_getElem hd
      exact .inl ⟨a, xs, _, _, rfl, rfl, SqL.of ha2.1, atI_nat hx, q _ _ e1 hW1 (List.getElem_mem hd)⟩
    · refine ⟨_, rfl, _, rfl, _, rfl, .inr ⟨z, rfl, szOf (by omega), W, z.length, c, rfl, hW, by omega, h0, by omega, fun v H1 e1 hW1 hv => ?_⟩⟩
      obtain ⟨d, rfl, hd⟩ := hv
      have hd' : d < (cl z).length := by rw [cl_len]; exact hd
      have hx : (cl z)[d]? = some (cl z)[d] := List.getElem?_eq_getElem hd'
      exact .inr (.inr ⟨z, _, _, rfl, rfl, szOf (by omega), atI_nat hx, q _ _ e1 hW1 ⟨_, rfl, List.getElem_mem hd'⟩⟩)
end
end K13
end
section
set_option Elab.async false
set_option linter.all false
set_option maxRecDepth 100000
set_option maxHeartbeats 4000000
namespace K13
open PySem PySem.Spec PyProof.Rows L2
open Evl (Ex)
theorem Wx.mut {W f : Addr} {H H' : Hp} {o : HO} (e : Wx W H H') (hf : H f = none) : Wx W H (upd H' f o) := fun b ob h => by
  obtain ⟨h1, h2⟩ := del_of h
  have := e b ob h
  rw [del_ne h2] at this
  exact del_in (by rw [upd_ne (ne_of_none h1 hf)]; exact this) h2
theorem WellAt.updN {W f : Addr} {H : Hp} {o : HO} {c : Nat} (h : WellAt H W c) (ne : W ≠ f) : WellAt (upd H f o) W c := by
  obtain ⟨a, b, k, e, r⟩ := h
  exact ⟨a, b, k, by rw [upd_ne ne]; exact e, r⟩
def spNms : Sp := fun vs H Q _ => ∃ (W : Addr) (m c : Nat), vs = [.ref W, .int ((m : Nat) : Int)] ∧ WellAt H W c ∧ c ≤ 80000 ∧ m ≤ 30 ∧
  Wn W (c + 400) H (fun v H' => ∃ l ns, v = .ref l ∧ del H' W l = some (.lst (sVs ns)) ∧ ns.length = m ∧ ns.Nodup ∧ ∀ n ∈ ns, nameOk n = true) Q
section
variable {P : Program} {w : World} {K : PySem.W.Frag} {mg : Str → Option Value} {base : Heap}
theorem ok_lnames (T : Tx K mg) : GFn P w K mg base "_law_names" CX0 3 ["_law_well_here", "_law_many"] spNms := by
  obtain ⟨fd, F⟩ := T.d_law_names
  refine gfn T.g_law_names F (F.bindsN fun _ _ _ _ _ _ us hl => match us, hl with | [_, _], _ => rfl) (ok0 F sc_law_names (fun vs H Q E h => ?_) fun cdv A outer s H vs Q E hr h => ?_)
  · obtain ⟨W, m, c, rfl, _⟩ := h; rfl
  · obtain ⟨W, m, c, rfl, hW, hc, hm, q⟩ := h
    refine ⟨_, pss_cons (ps_par (i := 2) (j := 3) rfl sc_law_names.nd rfl rfl (by decide) rfl rfl (pa_cons pe_str (pa_cons (pe_lst pa_nil) pa_nil)) (by rfl))
      (Evl.pss_cut (ps_for PassesOwn.never rfl (pi_range1 rfl T.z_range (pa_cons (pv 1) pa_nil)) (pg_name (i := 4) sc_law_names.nd rfl (.inl rfl))
        (pss_cons (ps_set (i := 5) sc_law_names.nd rfl (.inl rfl) (pe_g (ok_one T) hr pass0 (pa_cons (pv 0) (pa_cons (pv 2) pa_nil))))
        (Evl.pss_cut (ps_for PassesOwn.never rfl (pi_range1 rfl T.z_range (pa_cons (pe_g (ok_draw T) hr pass0 (pa_cons (pv 0) (pa_cons pe_int pa_nil))) pa_nil)) (pg_name (i := 6) sc_law_names.nd rfl (.inl rfl))
          (pss_one (ps_set (i := 5) sc_law_names.nd rfl (.inl rfl) (pe_op op_add_str (pv 5) (pe_g (ok_one T) hr pass0 (pa_cons (pv 0) (pa_cons (pe_op op_add_str (pv 2) pe_str) pa_nil)))))))
        (Evl.pss_cut (ps_if (PW.pt (pw_and (pt_cmpR (op_neD hr.units) (pv 3) (pe_lst pa_nil) (nomark _)) (pw_and1 (pt_cmpR op_eq (pe_g (ok_draw T) hr pass0 (pa_cons (pv 0) (pa_cons pe_int pa_nil))) pe_int (nomark _)))))
          (pss_cons (ps_set (i := 7) sc_law_names.nd rfl (.inl rfl) (pe_g (ok_one T) hr pass0 (pa_cons (pv 0) (pa_cons (pv 3) pa_nil))))
          (pss_cons (ps_set (i := 8) sc_law_names.nd rfl (.inl rfl) (pe_g (ok_draw T) hr pass0 (pa_cons (pv 0) (pa_cons (pe_callB call_len_str rfl T.z_len b_len (pa_cons (pv 7) pa_nil)) pa_nil))))
          (pss_one (ps_set (i := 5) sc_law_names.nd rfl (.inl rfl) (pe_op op_add_str (pe_op op_add_str (pe_slice sl_str (pv 7) po_none (po_some (pv 8))) (pe_g (ok_one T) hr pass0 (pa_cons (pv 0) (pa_cons (pv 2) pa_nil)))) (pe_slice sl_str (pv 7) (po_some (pe_op op_add (pv 8) pe_int)) po_none)))))) pss_nil)
        (pss_one (ps_expr (pe_bm PySem.F.plainAttrs_list PySem.F.slot_list_append PySem.F.type_list_append mt_append (pv 3) (pa_cons (pe_ifExp (pt_cmpR op_in_seq (pv 5) (pv 3) (by rfl)) (pe_op op_add_str pe_str (pe_callTy call_str_int rfl T.z_str b_str (pa_cons (pv 4) pa_nil))) (pv 5)) pa_nil))))))))
      (pss_one (ps_ret (pv 3)))), ?_⟩
    refine ⟨Nat.zero_le _, fun f hf => ⟨_, _, rfl, ?_⟩⟩
    have hfW : f ≠ W := hW.np hf
    have e1 : Wx W H (upd H f (.lst [])) := Wx.of (Ex.new hf)
    have hW1 : WellAt (upd H f (.lst [])) W c := hW.new hf
    have hf1 : del (upd H f (.lst [])) W f = some (.lst (sVs [])) := del_in upd_same hfW
    generalize upd H f (.lst []) = H1 at e1 hW1 hf1
    let S5 : Option V → Option V → Option V → Option V → Option V → L2.St := fun a b d e g => [some (.ref W), some (.int ((m : Nat) : Int)), some (.str s25), some (.ref f), a, b, d, e, g]
    refine ⟨fun σ H' => (∃ a b d e g, σ = S5 a b d e g) ∧ Wx W H H' ∧ WellAt H' W (c + 13 * m) ∧ ∃ ns, del H' W f = some (.lst (sVs ns)) ∧ ns.length = m ∧ ns.Nodup ∧ ∀ n ∈ ns, NmQ m n, ?_, ?_⟩
    · refine ⟨_, rfl, _, rfl, by omega, by omega, ?_⟩
      rw [show ((m : Nat) : Int).toNat = m by omega]
      refine for_range (lo := 0) (n := m) (fun i σ H' => (∃ a b d e g, σ = S5 a b d e g) ∧ Wx W H H' ∧ WellAt H' W (c + 13 * i) ∧ ∃ ns, del H' W f = some (.lst (sVs ns)) ∧ ns.length = i ∧ ns.Nodup ∧ ∀ n ∈ ns, NmQ i n)
        ⟨⟨_, _, _, _, _, rfl⟩, e1, hW1, [], hf1, rfl, List.nodup_nil, fun n hn => by cases hn⟩ ?_ (fun σ H' h => h)
      rintro i σ H2 hi ⟨⟨a, b, d, e, g, rfl⟩, e2, hW2, ns, hf2, hl2, hnd, hq2⟩
      have hcb : c + 13 * i + 13 ≤ 90000 := by omega
      -- the first sign
      refine ⟨_, rfl, _, rfl, W, c + 13 * i, _, rfl, hW2, by omega, .inr ⟨s25, rfl, by decide, by decide, fun v H3 e23 hW3 hv => ?_⟩⟩
      obtain ⟨u, rfl, hu⟩ := hv
      obtain ⟨u1, u2, u3⟩ := f25 u hu
      have e3 := e2.trans e23
      have hf3 := e23 _ _ hf2
      have n1 : nameOk ⟨#[u]⟩ = true := nameOk_of ⟨by show 1 ≤ 1; decide, by show 1 ≤ 8; decide, u1, fun x hx => by rw [List.mem_singleton.mp hx]; exact u2⟩
      -- more signs
      refine ⟨fun σ H' => (∃ z d e g, nameOk z = true ∧ (cl z).headD 0 ≠ 113 ∧ σ = S5 (some (.int (0 + (i : Nat)))) (some (.str z)) d e g) ∧ Wx W H H' ∧ WellAt H' W (c + 13 * i + 9) ∧ del H' W f = some (.lst (sVs ns)), ?_, ?_⟩
      · refine ⟨_, rfl, W, 8, c + 13 * i + 1, rfl, hW3, by omega, by decide, by decide, fun v H4 e34 hW4 hv => ?_⟩
        obtain ⟨dd, rfl, hdd⟩ := hv
        refine ⟨_, rfl, by omega, by omega, ?_⟩
        rw [show ((dd : Nat) : Int).toNat = dd by omega]
        refine for_range (lo := 0) (n := dd) (fun j σ H' => (∃ z d e g, nameOk z = true ∧ (cl z).headD 0 ≠ 113 ∧ z.length = 1 + j ∧ σ = S5 (some (.int (0 + (i : Nat)))) (some (.str z)) d e g) ∧ Wx W H H' ∧ WellAt H' W (c + 13 * i + 2 + j) ∧ del H' W f = some (.lst (sVs ns)))
          ⟨⟨_, _, _, _, n1, u3, rfl, rfl⟩, e3.trans e34, hW4, e34 _ _ hf3⟩ ?_ (fun σ H' ⟨⟨z, d, e, g, z1, z2, z3, z4⟩, h2, h3, h4⟩ => ⟨⟨z, d, e, g, z1, z2, z4⟩, h2, h3.le (by omega), h4⟩)
        rintro j σ H5 hj ⟨⟨z, d, e, g, z1, z2, z3, rfl⟩, e5, hW5, hf5⟩
        refine ⟨_, rfl, _, rfl, _, rfl, _, _, rfl, rfl, szOf (by decide), W, c + 13 * i + 2 + j, _, rfl, hW5, by omega, .inr ⟨_, rfl, by decide, by decide, fun v H6 e56 hW6 hv => ?_⟩⟩
        obtain ⟨x, rfl, hx⟩ := hv
        have gr := nm_grow z1 z2 (by omega) (f36 x hx)
        exact ⟨_, _, rfl, rfl, szOf (by rw [z3]; show 1 + j + 1 ≤ _; omega), ⟨_, _, _, _, gr.1, gr.2.1, by rw [gr.2.2, z3]; omega, rfl⟩, e5.trans e56, hW6, e56 _ _ hf5⟩
      rintro σ H4 ⟨⟨z, d, e, g, z1, z2, rfl⟩, e4, hW4, hf4⟩
      -- an elder's sister
      refine ⟨fun σ H' => (∃ z d e g, nameOk z = true ∧ qf (cl z) ∧ σ = S5 (some (.int (0 + (i : Nat)))) (some (.str z)) d e g) ∧ Wx W H H' ∧ WellAt H' W (c + 13 * i + 13) ∧ del H' W f = some (.lst (sVs ns)), ?_, ?_⟩
      · refine ⟨_, rfl, Nat.zero_le _, fun g1 hg1 => ?_⟩
        have e45 := Ex.new (o := .lst []) hg1
        obtain ⟨hf4', _⟩ := del_of hf4
        refine ⟨.list (ns.map PyData.str), .list [], .lst (SqL.of (e45 _ _ hf4')) sD_all, .lst (SqL.of upd_same) .nil, sD_shaped fun n hn => name_strOk (hq2 n hn).1, by decide +kernel, _, rfl, ?_⟩
        rw [sD_nil]
        have hW5 := hW4.mono e45
        have e5 := e4.trans (Wx.of e45)
        have hf5 := Wx.of (W := W) e45 _ _ hf4
        generalize upd H4 g1 (.lst []) = H5 at e45 hW5 e5 hf5
        by_cases hn0 : ns = []
        · exact iteND hn0 ⟨⟨_, _, _, _, z1, .inl z2, rfl⟩, e5, hW5.le (by omega), hf5⟩
        refine iteNDn hn0 ⟨_, rfl, W, 3, c + 13 * i + 9, rfl, hW5, by omega, by decide, by decide, fun v H6 e56 hW6 hv => ?_⟩
        obtain ⟨d3, rfl, hd3⟩ := hv
        have e6 := e5.trans e56
        have hf6 := e56 _ _ hf5
        refine ⟨rfl, _, rfl, ?_⟩
        by_cases h0 : V.int ((d3 : Nat) : Int) = .int 0
        · refine iteD h0 ?_
          refine ⟨_, rfl, _, rfl, W, c + 13 * i + 10, _, rfl, hW6, by omega, .inl ⟨f, sVs ns, rfl, hf6, (by intro q; exact hn0 (List.map_eq_nil_iff.mp q)), by rw [sVs_len]; omega, fun v H7 e67 hW7 hv => ?_⟩⟩
          obtain ⟨el, hel, rfl⟩ := List.mem_map.mp hv
          have elo := (hq2 el hel).1
          have ell := nameOk_len elo
          have el1 := (of_nameOk elo).l1
          rw [cl_len] at el1
          refine ⟨_, rfl, _, rfl, el, rfl, szOf (by omega), W, el.length, c + 13 * i + 11, rfl, hW7, by omega, by omega, by omega, fun v H8 e78 hW8 hv => ?_⟩
          obtain ⟨at_, rfl, hat⟩ := hv
          refine ⟨_, rfl, _, rfl, _, rfl, el, rfl, szOf (by omega), _, rfl, _, rfl, W, c + 13 * i + 12, _, rfl, hW8, by omega, .inr ⟨s25, rfl, by decide, by decide, fun v H9 e89 hW9 hv => ?_⟩⟩
          obtain ⟨x, rfl, hx⟩ := hv
          have mu := nm_mut elo hat hx
          have b1 := cutS_length el none (some ((at_ : Nat) : Int))
          have b2 := cutS_length el (some (((at_ : Nat) : Int) + 1)) none
          have b3 : (cutS el none (some ((at_ : Nat) : Int)) ++ (⟨#[x]⟩ : Str)).length = (cutS el none (some ((at_ : Nat) : Int))).length + 1 := by rw [← cl_len, cl_app, List.length_append, cl_len]; rfl
          refine ⟨_, _, rfl, rfl, szOf (by show _ + 1 ≤ _; omega), _, rfl, _, rfl, _, _, rfl, rfl, _, rfl, el, rfl, szOf (by omega), _, _, rfl, rfl, szOf (by rw [b3]; omega), ?_⟩
          exact ⟨⟨_, _, _, _, mu.1, mu.2, rfl⟩, ((e6.trans e67).trans e78).trans e89, hW9.le (by omega), e89 _ _ (e78 _ _ (e67 _ _ hf6))⟩
        · exact iteDn h0 ⟨⟨_, _, _, _, z1, .inl z2, rfl⟩, e6, hW6.le (by omega), hf6⟩
      rintro σ H5 ⟨⟨z, d, e, g, z1, z2, rfl⟩, e5, hW5, hf5⟩
      obtain ⟨hf5', _⟩ := del_of hf5
      -- the name comes in
      have fin : ∀ n : Str, NmQ (i + 1) n → n ∉ ns → ∃ l xs y, V.ref f = .ref l ∧ [V.str n] = [y] ∧ H5 l = some (.lst xs) ∧ xs.length < sizeLine ∧ ((∃ a b d' e' g', S5 (some (.int (0 + (i : Nat)))) (some (.str z)) d e g = S5 a b d' e' g') ∧ Wx W H (upd H5 l (.lst (xs ++ [y]))) ∧ WellAt (upd H5 l (.lst (xs ++ [y]))) W (c + 13 * (i + 1)) ∧ ∃ ns', del (upd H5 l (.lst (xs ++ [y]))) W f = some (.lst (sVs ns')) ∧ ns'.length = i + 1 ∧ ns'.Nodup ∧ ∀ n ∈ ns', NmQ (i + 1) n) := fun n hn hni => by
        refine ⟨f, sVs ns, _, rfl, rfl, hf5', szLt (by rw [sVs_len]; omega), ⟨_, _, _, _, _, rfl⟩, e5.mut hf, (hW5.updN (Ne.symm hfW)).le (by omega), ns ++ [n], del_in (by rw [upd_same, sVs_snoc]) hfW, by rw [List.length_append, hl2]; rfl, ?_, fun y hy => ?_⟩
        · rw [List.nodup_append]
          refine ⟨hnd, List.nodup_cons.mpr ⟨(fun q => by cases q), List.nodup_nil⟩, fun x hx y hy => ?_⟩
          rw [List.mem_singleton.mp hy]
          exact fun q => hni (q ▸ hx)
        · rcases List.mem_append.mp hy with hy | hy
          · exact (hq2 y hy).le (Nat.le_succ i)
          · rw [List.mem_singleton.mp hy]; exact hn
      refine ⟨_, rfl, .inl ⟨rfl, _, SqL.of hf5'⟩, _, rfl, _, rfl, f, sVs ns, rfl, .inl (SqL.of hf5'), rfl, flat_strs, _, rfl, iteB inV_strs ?_⟩
      by_cases hz : z ∈ ns
      · refine iteD hz ⟨_, rfl, _, rfl, ?_, _, _, rfl, rfl, ?_, ?_⟩
        · have : ((0 : Int) + (i : Nat)).natAbs = i := by omega
          rw [this]
          exact Nat.lt_of_le_of_lt (Nat.log2_le_self i) (by omega)
        · have := nameOk_len (q_ok i (List.mem_range.mpr (by omega)))
          have e0 : (qn i).length = ("q" : Str).length + (Str.ofString (toString ((i : Nat) : Int))).length := by
            rw [← cl_len]; unfold qn; rw [cl_app, List.length_append, cl_len, cl_len]
          rw [show (0 : Int) + (i : Nat) = ((i : Nat) : Int) by omega]
          exact szOf (by rw [← e0]; omega)
        · have hh := fin (qn i) ⟨q_ok i (List.mem_range.mpr (by omega)), .inr ⟨i, Nat.lt_succ_self i, rfl⟩⟩ (q_new (by omega) hq2)
          rw [show qn i = "q" ++ Str.ofString (toString ((0 : Int) + (i : Nat))) by rw [show (0 : Int) + (i : Nat) = ((i : Nat) : Int) by omega]; rfl] at hh
          exact hh
      · exact iteDn hz ⟨_, rfl, fin z ⟨z1, .inl z2⟩ hz⟩
    · rintro σ H' ⟨⟨a, b, d, e, g, rfl⟩, e2, hW2, ns, hf2, hl2, hnd, hq2⟩
      exact ⟨_, rfl, q _ H' e2 (hW2.le (by omega)) ⟨f, ns, rfl, hf2, hl2, hnd, fun n hn => (hq2 n hn).1⟩⟩
end
end K13
end
section
set_option Elab.async false
set_option linter.all false
set_option maxRecDepth 100000
set_option maxHeartbeats 4000000
namespace K13
open PySem PySem.Spec PyProof.Rows L2
open Evl (Ex)
/-! ## levels -/
def Lv : Int → List Int → Prop
  | _, [] => True
  | a, l :: ls => 0 ≤ l ∧ l ≤ a + 1 ∧ Lv l ls
def lastI : Int → List Int → Int
  | a, [] => a
  | _, l :: ls => lastI l ls
theorem lv_snoc : ∀ {ls : List Int} {a l : Int}, Lv a ls → 0 ≤ l → l ≤ lastI a ls + 1 → Lv a (ls ++ [l])
  | [], _, _, _, h0, h1 => ⟨h0, h1, trivial⟩
  | _ :: _, _, _, ⟨a1, a2, a3⟩, h0, h1 => ⟨a1, a2, lv_snoc a3 h0 h1⟩
theorem last_snoc : ∀ {ls : List Int} {a l : Int}, lastI a (ls ++ [l]) = l
  | [], _, _ => rfl
  | _ :: ls, _, _ => last_snoc (ls := ls)
theorem last_at : ∀ {ls : List Int} {a : Int}, ls ≠ [] → ∃ ms, ls = ms ++ [lastI a ls]
  | [], _, h => absurd rfl h
  | [x], _, _ => ⟨[], rfl⟩
  | x :: y :: ls, _, _ => by
    obtain ⟨ms, e⟩ := last_at (ls := y :: ls) (a := x) (by simp)
    exact ⟨x :: ms, by rw [List.cons_append]; exact congrArg (x :: ·) e⟩
theorem lv_steps : ∀ {rs : FM.Rows Str} {a : Int}, Lv a (rs.map (·.l)) → FM.Steps a rs
  | [], _, _ => trivial
  | _ :: _, _, ⟨a1, a2, a3⟩ => ⟨a1, a2, lv_steps a3⟩
abbrev iVs (l : List Int) : List V := l.map V.int
theorem iVs_snoc {l : List Int} {n : Int} : iVs (l ++ [n]) = iVs l ++ [V.int n] := by show List.map _ _ = _; rw [List.map_append]; rfl
theorem iVs_len {l : List Int} : (iVs l).length = l.length := List.length_map ..
theorem iDs_lay : ∀ {l : List Int}, PyData.canLayAll0 (l.map PyData.int) = true
  | [] => by simp [PyData.canLayAll0]
  | x :: l => by simp [PyData.canLayAll0, PyData.canLay0, iDs_lay (l := l)]
theorem iDs_depth : ∀ {l : List Int}, PyData.depthAll (l.map PyData.int) = 0
  | [] => by simp [PyData.depthAll]
  | x :: l => by simp [PyData.depthAll, PyData.depth, iDs_depth (l := l)]
theorem iD_shaped {l : List Int} : SeqAt.shaped (.list (l.map PyData.int)) = true := by
  show (PyData.canLay0 _ && decide (PyData.depth _ ≤ 64)) = true
  rw [Bool.and_eq_true]
  exact ⟨by simp only [PyData.canLay0]; exact iDs_lay, decide_eq_true (by simp only [PyData.depth]; rw [iDs_depth]; omega)⟩
theorem iD_all {K : PySem.W.Frag} {H : Hp} : ∀ {l : List Int}, DpAll K H (iVs l) (l.map PyData.int)
  | [] => .nil
  | x :: l => .cons (.int x) (iD_all (l := l))
theorem iD_nil {l : List Int} : PyData.eqv (.list (l.map PyData.int)) (.list []) = decide (l = []) := by
  cases l with
  | nil => simp [PyData.eqv, PyData.eqvAll]
  | cons a l => simp [PyData.eqv, PyData.eqvAll]
def spLVal : Sp := fun vs H Q _ => ∃ (W : Addr) (c : Nat), vs = [.ref W] ∧ WellAt H W c ∧ c ≤ 80000 ∧ Wn W (c + 10) H (fun v _ => ∃ i, v = .int i ∧ vvOk i) Q
def spLLev : Sp := fun vs H Q _ => ∃ (W : Addr) (m c : Nat), vs = [.ref W, .int ((m : Nat) : Int)] ∧ WellAt H W c ∧ c ≤ 80000 ∧ m ≤ 30 ∧
  Wn W (c + 200) H (fun v H' => ∃ l ls, v = .ref l ∧ del H' W l = some (.lst (iVs ls)) ∧ ls.length = m ∧ Lv (-1) ls) Q
section
variable {P : Program} {w : World} {K : PySem.W.Frag} {mg : Str → Option Value} {base : Heap}
theorem ok_lvalue (T : Tx K mg) : GFn P w K mg base "_law_value" CX0 3 ["_law_well_here"] spLVal := by
  obtain ⟨fd, F⟩ := T.d_law_value
  refine gfn T.g_law_value F (F.bindsN fun _ _ _ _ _ _ us hl => match us, hl with | [_], _ => rfl) (ok0 F sc_law_value (fun vs H Q E h => ?_) fun cdv A outer s H vs Q E hr h => ?_)
  · obtain ⟨W, c, rfl, _⟩ := h; rfl
  · obtain ⟨W, c, rfl, hW, hc, q⟩ := h
    refine ⟨_, pss_cons (ps_if (pt_cmpR op_eq (pe_g (ok_draw T) hr pass0 (pa_cons (pv 0) (pa_cons pe_int pa_nil))) pe_int (nomark _)) (pss_one (ps_ret (pe_op op_sub (pe_g (ok_draw T) hr pass0 (pa_cons (pv 0) (pa_cons pe_int pa_nil))) pe_int))) pss_nil)
      (pss_cons (ps_set (i := 1) sc_law_value.nd rfl (.inl rfl) (pe_op op_add (pe_op op_mul (pe_g (ok_draw T) hr pass0 (pa_cons (pv 0) (pa_cons (pe_op op_pow pe_int pe_int) pa_nil))) (pe_op op_pow pe_int pe_int)) (pe_g (ok_draw T) hr pass0 (pa_cons (pv 0) (pa_cons (pe_op op_pow pe_int pe_int) pa_nil)))))
      (pss_one (ps_ret (pe_g (ok_one T) hr pass0 (pa_cons (pv 0) (pa_cons (pe_lst (pa_cons (pv 1) (pa_cons (pe_op op_sub pe_int (pv 1)) (pa_cons (pe_op op_pow pe_int pe_int) (pa_cons (pe_op op_sub pe_int (pe_op op_pow pe_int pe_int)) pa_nil))))) pa_nil)))))), ?_⟩
    refine ⟨_, rfl, W, 2, c, rfl, hW, by omega, by decide, by decide, fun v H1 e1 hW1 hv => ?_⟩
    obtain ⟨d, rfl, hd⟩ := hv
    have hMV : MV = 1000000000000000000000000000000 := by decide +kernel
    refine ⟨rfl, _, rfl, ?_⟩
    by_cases h0 : V.int ((d : Nat) : Int) = .int 0
    · refine iteD h0 ⟨_, rfl, W, 19, c + 1, rfl, hW1, by omega, by decide, by decide, fun v H2 e2 hW2 hv => ?_⟩
      obtain ⟨d2, rfl, hd2⟩ := hv
      refine ⟨_, _, rfl, rfl, q _ H2 (e1.trans e2) (hW2.le (by omega)) ⟨_, rfl, ?_⟩⟩
      unfold vvOk
      rw [hMV]
      omega
    · refine iteDn h0 ?_
      have p15 : (10 : Int) ^ (15 : Int).toNat = ((1000000000000000 : Nat) : Int) := by decide
      have p30 : (10 : Int) ^ (30 : Int).toNat = 1000000000000000000000000000000 := by decide
      refine ⟨_, rfl, _, _, rfl, rfl, ⟨by decide, by decide, by decide⟩, W, 1000000000000000, c + 1, by show [V.ref W, V.int ((10 : Int) ^ (15 : Int).toNat)] = _; rw [p15], hW1, by omega, by decide, by decide, fun v H2 e2 hW2 hv => ?_⟩
      obtain ⟨d2, rfl, hd2⟩ := hv
      refine ⟨_, _, rfl, rfl, ⟨by decide, by decide, by decide⟩, _, _, rfl, rfl, .inl ⟨by omega, by omega⟩, _, rfl, _, _, rfl, rfl, ⟨by decide, by decide, by decide⟩, W, 1000000000000000, c + 2, by show [V.ref W, V.int ((10 : Int) ^ (15 : Int).toNat)] = _; rw [p15], hW2, by omega, by decide, by decide, fun v H3 e3 hW3 hv => ?_⟩
      obtain ⟨d3, rfl, hd3⟩ := hv
      refine ⟨_, _, rfl, rfl, ?_⟩
      rw [p15]
      generalize hg : ((d2 : Nat) : Int) * ((1000000000000000 : Nat) : Int) + ((d3 : Nat) : Int) = g
      have hg0 : 0 ≤ g := by rw [← hg]; omega
      have hg1 : g ≤ 999999999999999999999999999999 := by rw [← hg]; omega
      refine ⟨_, rfl, _, rfl, _, rfl, _, _, rfl, rfl, _, _, rfl, rfl, ⟨by decide, by decide, by decide⟩, _, _, rfl, rfl, ⟨by decide, by decide, by decide⟩, _, _, rfl, rfl, (by show 4 ≤ sizeLine; decide), fun l hl => ?_⟩
      have hWl := hW3.np hl
      refine ⟨W, c + 3, _, rfl, hW3.new hl, by omega, .inl ⟨l, _, rfl, del_in upd_same hWl, (by intro z; cases z), (by show 4 ≤ 1000; decide), fun v H4 e4 hW4 hv => ?_⟩⟩
      refine q v H4 (((e1.trans e2).trans e3).trans ((Wx.of (Ex.new hl)).trans e4)) (hW4.le (by omega)) ?_
      rw [p30] at hv
      unfold vvOk
      rw [hMV]
      simp only [List.mem_cons, List.not_mem_nil, or_false] at hv
      rcases hv with rfl | rfl | rfl | rfl
      · exact ⟨_, rfl, by omega⟩
      · exact ⟨_, rfl, by omega⟩
      · exact ⟨_, rfl, by omega⟩
      · exact ⟨_, rfl, by omega⟩
theorem ok_llevels (T : Tx K mg) : GFn P w K mg base "_law_levels" CX0 2 ["_law_well_here", "_law_many"] spLLev := by
  obtain ⟨fd, F⟩ := T.d_law_levels
  refine gfn T.g_law_levels F (F.bindsN fun _ _ _ _ _ _ us hl => match us, hl with | [_, _], _ => rfl) (ok0 F sc_law_levels (fun vs H Q E h => ?_) fun cdv A outer s H vs Q E hr h => ?_)
  · obtain ⟨W, m, c, rfl, _⟩ := h; rfl
  · obtain ⟨W, m, c, rfl, hW, hc, hm, q⟩ := h
    refine ⟨_, pss_cons (ps_par (i := 2) (j := 3) rfl sc_law_levels.nd rfl rfl (by decide) rfl rfl (pa_cons (pe_lst pa_nil) (pa_cons (pe_g (ok_draw T) hr pass0 (pa_cons (pv 0) (pa_cons pe_int pa_nil))) pa_nil)) (by rfl))
      (Evl.pss_cut (ps_for PassesOwn.never rfl (pi_range1 rfl T.z_range (pa_cons (pv 1) pa_nil)) (pg_name (i := 4) sc_law_levels.nd rfl (.inl rfl))
        (pss_cons (ps_set (i := 5) sc_law_levels.nd rfl (.inl rfl) (pe_ifExp (pt_cmpR (op_neD hr.units) (pv 2) (pe_lst pa_nil) (nomark _)) (pe_op op_add (pe_ix ix_list (pv 2) (pe_un un_neg pe_int) (fun _ _ => rfl)) pe_int) pe_int))
        (pss_cons (ps_set (i := 6) sc_law_levels.nd rfl (.inl rfl) (pv 5))
        (Evl.pss_cut (ps_if (PW.pt (pw_or (pt_cmpR op_eq (pv 3) pe_int (nomark _)) (pw_or1 (PW.pt (pw_and (pt_cmpR op_eq (pv 3) pe_int (nomark _)) (pw_and1 (pt_cmpR op_eq (pe_g (ok_draw T) hr pass0 (pa_cons (pv 0) (pa_cons pe_int pa_nil))) pe_int (nomark _)))))))) (pss_one (ps_set (i := 6) sc_law_levels.nd rfl (.inl rfl) (pe_g (ok_draw T) hr pass0 (pa_cons (pv 0) (pa_cons (pe_op op_add (pv 5) pe_int) pa_nil))))) pss_nil)
        (Evl.pss_cut (ps_if (pt_cmpR op_eq (pv 3) pe_int (nomark _)) (pss_one (ps_set (i := 6) sc_law_levels.nd rfl (.inl rfl) (pe_g (ok_draw T) hr pass0 (pa_cons (pv 0) (pa_cons (pe_op op_add pe_int (pe_ix ix_list (pe_lst (pa_cons (pv 5) (pa_cons pe_int pa_nil))) (pe_callTy call_int1 rfl T.z_int b_int (pa_cons (pe_cmpR op_gt (pv 5) pe_int (nomark _)) pa_nil)) (fun _ _ => rfl))) pa_nil))))) pss_nil)
        (pss_one (ps_expr (pe_bm PySem.F.plainAttrs_list PySem.F.slot_list_append PySem.F.type_list_append mt_append (pv 2) (pa_cons (pv 6) pa_nil)))))))))
      (pss_one (ps_ret (pv 2)))), ?_⟩
    refine ⟨Nat.zero_le _, fun f hf => ?_⟩
    have hfW : f ≠ W := hW.np hf
    have e1 : Wx W H (upd H f (.lst [])) := Wx.of (Ex.new hf)
    have hW1 : WellAt (upd H f (.lst [])) W c := hW.new hf
    have hf1 : del (upd H f (.lst [])) W f = some (.lst (iVs [])) := del_in upd_same hfW
    generalize upd H f (.lst []) = H1 at e1 hW1 hf1
    refine ⟨_, rfl, W, 4, c, rfl, hW1, by omega, by decide, by decide, fun v H2 e12 hW2 hv => ?_⟩
    obtain ⟨sty, rfl, hsty⟩ := hv
    refine ⟨_, _, rfl, ?_⟩
    have e2 := e1.trans e12
    have hf2 := e12 _ _ hf1
    let S5 : Option V → Option V → Option V → L2.St := fun a b d => [some (.ref W), some (.int ((m : Nat) : Int)), some (.ref f), some (.int ((sty : Nat) : Int)), a, b, d]
    refine ⟨fun σ H' => (∃ a b d, σ = S5 a b d) ∧ Wx W H H' ∧ WellAt H' W (c + 1 + 3 * m) ∧ ∃ ls, del H' W f = some (.lst (iVs ls)) ∧ ls.length = m ∧ Lv (-1) ls, ?_, ?_⟩
    · refine ⟨_, rfl, _, rfl, by omega, by omega, ?_⟩
      rw [show ((m : Nat) : Int).toNat = m by omega]
      refine for_range (lo := 0) (n := m) (fun i σ H' => (∃ a b d, σ = S5 a b d) ∧ Wx W H H' ∧ WellAt H' W (c + 1 + 3 * i) ∧ ∃ ls, del H' W f = some (.lst (iVs ls)) ∧ ls.length = i ∧ Lv (-1) ls ∧ -1 ≤ lastI (-1) ls ∧ lastI (-1) ls + 1 ≤ i)
        ⟨⟨_, _, _, rfl⟩, e2, hW2, [], hf2, rfl, trivial, by decide, by decide⟩ ?_ (fun σ H' ⟨h1, h2, h3, ls, h4, h5, h6, _⟩ => ⟨h1, h2, h3, ls, h4, h5, h6⟩)
      rintro i σ H3 hi ⟨⟨a, b, d, rfl⟩, e3, hW3, ls, hf3, hl3, hL3, hm1, hm2⟩
      obtain ⟨hf3', _⟩ := del_of hf3
      -- most
      refine ⟨_, rfl, Nat.zero_le _, fun g1 hg1 => ?_⟩
      have e34 := Ex.new (o := .lst []) hg1
      refine ⟨.list (ls.map PyData.int), .list [], .lst (SqL.of (e34 _ _ hf3')) iD_all, .lst (SqL.of upd_same) .nil, iD_shaped, by decide +kernel, _, rfl, ?_⟩
      rw [iD_nil]
      have hW4 := hW3.mono e34
      have e4 := e3.trans (Wx.of e34)
      have hf4 := Wx.of (W := W) e34 _ _ hf3
      have hf4' := e34 _ _ hf3'
      generalize upd H3 g1 (.lst []) = H4 at e34 hW4 e4 hf4 hf4'
      have rest : ∀ mo : Int, 0 ≤ mo → mo ≤ lastI (-1) ls + 1 → tSeq (tAsg (tVar 5) (gName 6)) (Evl.tCut (tIfS (tOr (tTest (tOp rEq (tVar 3) (tC (.int 0)))) (tAnd (tTest (tOp rEq (tVar 3) (tC (.int 1)))) (tTest (tOp rEq (tCall spDraw [] E0 (tCons (tVar 0) (tCons (tC (.int 4)) tNil))) (tC (.int 0)))))) (tAsg (tCall spDraw [] E0 (tCons (tVar 0) (tCons (tOp (rI0 fun i j => .int (i + j)) (tVar 5) (tC (.int 1))) tNil))) (gName 6)) tNext)
          (Evl.tCut (tIfS (tTest (tOp rEq (tVar 3) (tC (.int 2)))) (tAsg (tCall spDraw [] E0 (tCons (tVar 0) (tCons (tOp (rI0 fun i j => .int (i + j)) (tC (.int 1)) (tOp (rIxL K) (tLst (tCons (tVar 5) (tCons (tC (.int 2)) tNil))) (tCB (fun xs H Q => (∃ i, xs = [.int i] ∧ Q (.int i) H) ∨ ∃ k, xs = [.bl k] ∧ Q (.int (if k then 1 else 0)) H) (tCons (tOp (rI0 fun i j => .bl (decide (j < i))) (tVar 5) (tC (.int 2))) tNil)))) tNil))) (gName 6)) tNext)
            (tDrop (tBM K "list" rAppend (tVar 2) (tCons (tVar 6) tNil))))) { nx := fun σ H' => (∃ a b d, σ = S5 a b d) ∧ Wx W H H' ∧ WellAt H' W (c + 1 + 3 * (i + 1)) ∧ ∃ ls, del H' W f = some (.lst (iVs ls)) ∧ ls.length = i + 1 ∧ Lv (-1) ls ∧ -1 ≤ lastI (-1) ls ∧ lastI (-1) ls + 1 ≤ ((i + 1 : Nat) : Int), rt := Q } (S5 (some (.int (0 + (i : Nat)))) (some (.int mo)) d) H4 := fun mo h0 h1 => by
        refine ⟨_, rfl, ?_⟩
        refine ⟨fun σ H' => (∃ l : Int, 0 ≤ l ∧ l ≤ mo ∧ σ = S5 (some (.int (0 + (i : Nat)))) (some (.int mo)) (some (.int l))) ∧ Wx W H H' ∧ WellAt H' W (c + 1 + 3 * i + 2) ∧ del H' W f = some (.lst (iVs ls)), ?_, ?_⟩
        · have draw : ∀ H5 k, k ≤ 1 → Wx W H H5 → WellAt H5 W (c + 1 + 3 * i + k) → del H5 W f = some (.lst (iVs ls)) → tAsg (tCall spDraw [] E0 (tCons (tVar 0) (tCons (tOp (rI0 fun i j => .int (i + j)) (tVar 5) (tC (.int 1))) tNil))) (gName 6) { nx := fun σ H' => (∃ l : Int, 0 ≤ l ∧ l ≤ mo ∧ σ = S5 (some (.int (0 + (i : Nat)))) (some (.int mo)) (some (.int l))) ∧ Wx W H H' ∧ WellAt H' W (c + 1 + 3 * i + 2) ∧ del H' W f = some (.lst (iVs ls)), rt := Q } (S5 (some (.int (0 + (i : Nat)))) (some (.int mo)) (some (.int mo))) H5 := fun H5 k hk e5 hW5 hf5 => by
            refine ⟨_, rfl, _, rfl, _, _, rfl, rfl, W, (mo + 1).toNat, c + 1 + 3 * i + k, by show [V.ref W, V.int (mo + 1)] = _; rw [Int.toNat_of_nonneg (by omega)], hW5, by omega, by omega, by omega, fun v H6 e6 hW6 hv => ?_⟩
            obtain ⟨dd, rfl, hdd⟩ := hv
            exact ⟨⟨_, by omega, by omega, rfl⟩, e5.trans e6, hW6.le (by omega), e6 _ _ hf5⟩
          refine ⟨_, rfl, rfl, _, rfl, ?_⟩
          by_cases hs0 : V.int ((sty : Nat) : Int) = .int 0
          · exact iteD hs0 (iteT (draw H4 0 (by omega) e4 hW4 hf4))
          · refine iteDn hs0 ⟨_, rfl, rfl, _, rfl, ?_⟩
            by_cases hs1 : V.int ((sty : Nat) : Int) = .int 1
            · refine iteD hs1 ⟨_, rfl, W, 4, c + 1 + 3 * i, rfl, hW4, by omega, by decide, by decide, fun v H5 e5 hW5 hv => ?_⟩
              obtain ⟨dd, rfl, hdd⟩ := hv
              refine ⟨rfl, _, rfl, ?_⟩
              by_cases hz : V.int ((dd : Nat) : Int) = .int 0
              · exact iteD hz (draw H5 1 (by omega) (e4.trans e5) hW5 (e5 _ _ hf4))
              · exact iteDn hz ⟨⟨mo, h0, Int.le_refl _, rfl⟩, e4.trans e5, hW5.le (by omega), e5 _ _ hf4⟩
            · exact iteDn hs1 (iteF ⟨⟨mo, h0, Int.le_refl _, rfl⟩, e4, hW4.le (by omega), hf4⟩)
        rintro σ H5 ⟨⟨l, hl0, hl1, rfl⟩, e5, hW5, hf5⟩
        refine ⟨fun σ H' => (∃ l : Int, 0 ≤ l ∧ l ≤ mo ∧ σ = S5 (some (.int (0 + (i : Nat)))) (some (.int mo)) (some (.int l))) ∧ Wx W H H' ∧ WellAt H' W (c + 1 + 3 * i + 3) ∧ del H' W f = some (.lst (iVs ls)), ?_, ?_⟩
        · refine ⟨_, rfl, rfl, _, rfl, ?_⟩
          by_cases hs2 : V.int ((sty : Nat) : Int) = .int 2
          · refine iteD hs2 ⟨_, rfl, _, rfl, (by show 2 ≤ sizeLine; decide), fun g2 hg2 => ?_⟩
            have e56 := Ex.new (o := .lst [.int mo, .int 2]) hg2
            refine ⟨_, rfl, _, _, rfl, rfl, .inr ⟨_, rfl, ?_⟩⟩
            have fin : ∀ z : Int, 0 ≤ z → z ≤ mo → spDraw [.ref W, .int (1 + z)] (upd H5 g2 (.lst [.int mo, .int 2])) (fun v H' => (∃ l : Int, 0 ≤ l ∧ l ≤ mo ∧ (S5 (some (.int (0 + (i : Nat)))) (some (.int mo)) (some (.int l))).set 6 (some v) = S5 (some (.int (0 + (i : Nat)))) (some (.int mo)) (some (.int l))) ∧ Wx W H H' ∧ WellAt H' W (c + 1 + 3 * i + 3) ∧ del H' W f = some (.lst (iVs ls))) E0 := fun z hz0 hz1 => by
              refine ⟨W, (1 + z).toNat, c + 1 + 3 * i + 2, by rw [Int.toNat_of_nonneg (by omega)], hW5.mono e56, by omega, by omega, by omega, fun v H6 e6 hW6 hv => ?_⟩
              obtain ⟨dd, rfl, hdd⟩ := hv
              exact ⟨⟨_, by omega, by omega, rfl⟩, (e5.trans (Wx.of e56)).trans e6, hW6.le (by omega), e6 _ _ (Wx.of (W := W) e56 _ _ hf5)⟩
            by_cases h2 : (2 : Int) < mo
            · exact ⟨g2, _, (if decide (2 < mo) = true then 1 else 0), .int 2, rfl, rfl, SqL.of upd_same, by rw [decide_eq_true h2]; rfl, _, _, rfl, rfl, fin 2 (by decide) (by omega)⟩
            · exact ⟨g2, _, (if decide (2 < mo) = true then 1 else 0), .int mo, rfl, rfl, SqL.of upd_same, by rw [decide_eq_false h2]; rfl, _, _, rfl, rfl, fin mo h0 (Int.le_refl _)⟩
          · exact iteDn hs2 ⟨⟨l, hl0, hl1, rfl⟩, e5, hW5.le (by omega), hf5⟩
        rintro σ H6 ⟨⟨l, hl0, hl1, rfl⟩, e6, hW6, hf6⟩
        obtain ⟨hf6', _⟩ := del_of hf6
        refine ⟨_, rfl, .inl ⟨rfl, _, SqL.of hf6'⟩, _, rfl, f, iVs ls, _, rfl, rfl, hf6', szLt (by rw [iVs_len]; omega), ?_⟩
        exact ⟨⟨_, _, _, rfl⟩, e6.mut hf, (hW6.updN (Ne.symm hfW)).le (by omega), ls ++ [l], del_in (by rw [upd_same, iVs_snoc]) hfW, by rw [List.length_append, hl3]; rfl, lv_snoc hL3 hl0 (by omega), by rw [last_snoc]; omega, by rw [last_snoc]; omega⟩
      by_cases hn0 : ls = []
      · refine iteND hn0 (rest 0 (Int.le_refl _) (by omega))
      · obtain ⟨ms, em⟩ := last_at (a := -1) hn0
        refine iteNDn hn0 ⟨_, rfl, _, rfl, f, iVs ls, -1, .int (lastI (-1) ls), rfl, rfl, SqL.of hf4', ?_, _, _, rfl, rfl, rest (lastI (-1) ls + 1) (by omega) (Int.le_refl _)⟩
        conv => lhs; rw [em, iVs_snoc]
        exact atI_last _ _
    · rintro σ H' ⟨⟨a, b, d, rfl⟩, e3, hW3, ls, hf3, hl3, hL3⟩
      exact ⟨_, rfl, q _ H' e3 (hW3.le (by omega)) ⟨f, ls, rfl, hf3, hl3, hL3⟩⟩
end
end K13
end
section
set_option Elab.async false
set_option linter.all false
set_option maxRecDepth 100000
set_option maxHeartbeats 4000000
namespace K13
open PySem PySem.Spec PyProof.Rows L2
open Evl (Ex)
theorem nodup_le : ∀ {l m : List Str}, l.Nodup → (∀ x ∈ l, x ∈ m) → l.length ≤ m.length
  | [], _, _, _ => Nat.zero_le _
  | x :: l, m, h, hs => by
    rw [List.nodup_cons] at h
    have hx := hs x List.mem_cons_self
    have ih := nodup_le (l := l) (m := m.erase x) h.2 fun y hy => by
      have hne : y ≠ x := fun e => h.1 (e ▸ hy)
      exact (List.mem_erase_of_ne hne).mpr (hs y (List.mem_cons_of_mem _ hy))
    have := List.length_erase_of_mem hx
    have hpos : 0 < m.length := List.length_pos_of_mem hx
    rw [List.length_cons]
    omega
def qs (k : Nat) : Str := "q9" ++ Str.ofString (toString ((k : Nat) : Int))
theorem qs_ok : ∀ k ∈ List.range 61, nameOk (qs k) = true := by decide +kernel
theorem qs_nd : ((List.range 61).map qs).Nodup := by decide +kernel
theorem qs_free {ns : List Str} (h : ns.length ≤ 59) : ∃ s ∈ (List.range 61).map qs, s ∉ ns := by
  refine Decidable.byContradiction fun hc => ?_
  have := nodup_le (m := ns) qs_nd fun x hx => Decidable.byContradiction fun hx2 => hc ⟨x, hx, hx2⟩
  rw [List.length_map, List.length_range] at this
  omega
/-- rows beside the well -/
def spLRows : Sp := fun vs H Q _ => ∃ (W : Addr) (m c : Nat), vs = [.ref W, .int ((m : Nat) : Int)] ∧ WellAt H W c ∧ c ≤ 10000 ∧ m ≤ 30 ∧
  Wn W (c + 2000) H (fun v H' => ∃ l ws rs, v = .ref l ∧ del H' W l = some (.lst ws) ∧ RowsAt (del H' W) ws rs ∧ Okf rs ∧ rs.length ≤ 30) Q
def spNewN : Sp := fun vs H Q _ => ∃ (W a : Addr) (ns : List Str) (c : Nat), vs = [.ref W, .ref a] ∧ WellAt H W c ∧ c ≤ 70000 ∧ del H W a = some (.lst (sVs ns)) ∧ ns.length ≤ 59 ∧
  Wn W (c + 400) H (fun v _ => ∃ n, v = .str n ∧ nmOk n ∧ n ∉ ns) Q
theorem rows_updW {H : Hp} {W f : Addr} {w0 ys : List V} (hf : del H W f = some (.lst w0)) {vs : List V} {rs : FM.Rows Str} (h : RowsAt (del H W) vs rs) : RowsAt (del (upd H f (.lst ys)) W) vs rs := by
  have hne := (del_of hf).2
  have e : del (upd H f (.lst ys)) W = upd (del H W) f (.lst ys) := by
    funext b
    by_cases hb : b = W
    · rw [hb, del_same, upd_ne (Ne.symm hne), del_same]
    · rw [del_ne hb]
      by_cases hbf : b = f
      · rw [hbf, upd_same, upd_same]
      · rw [upd_ne hbf, upd_ne hbf, del_ne hb]
  rw [e]
  exact RowsAt.updL hf h
section
variable {P : Program} {w : World} {K : PySem.W.Frag} {mg : Str → Option Value} {base : Heap}
theorem ok_lrows (T : Tx K mg) : GFn P w K mg base "_law_rows" CX0 4 ["_law_well_here", "_law_most"] spLRows := by
  obtain ⟨fd, F⟩ := T.d_law_rows
  refine gfn T.g_law_rows F (F.bindsN fun _ _ _ _ _ _ us hl => match us, hl with | [_, _], _ => rfl) (ok0 F sc_law_rows (fun vs H Q E h => ?_) fun cdv A outer s H vs Q E hr h => ?_)
  · obtain ⟨W, m, c, rfl, _⟩ := h; rfl
  · obtain ⟨W, m, c, rfl, hW, hc, hm, q⟩ := h
    refine ⟨_, pss_cons (ps_set (i := 2) sc_law_rows.nd rfl (.inl rfl) (pe_g (ok_draw T) hr pass0 (pa_cons (pv 0) (pa_cons (pe_op op_add (pv 1) pe_int) pa_nil))))
      (pss_cons (ps_asg (pe_tup (pa_cons (pe_g (ok_lnames T) hr pass0 (pa_cons (pv 0) (pa_cons (pv 2) pa_nil))) (pa_cons (pe_g (ok_llevels T) hr pass0 (pa_cons (pv 0) (pa_cons (pv 2) pa_nil))) pa_nil))) (pg_tup rfl (pgs_cons (pg_name (i := 3) sc_law_rows.nd rfl (.inr rfl)) (pgs_cons (pg_name (i := 4) sc_law_rows.nd rfl (.inr rfl)) pgs_nil))))
      (pss_one (ps_ret (pe_lc (own := [("_law_k", 5)]) (g := gName 5) (tt := tYes) rfl sc_law_rows.nd (pi_range1 rfl T.z_range (pa_cons (pv 2) pa_nil)) (blkOk_by (N := N_law_rows) (sc := defScope st_law_rows) (by decide +kernel)) (fun _ _ _ _ _ => pg_name (i := 5) sc_law_rows.nd rfl (.inl rfl)) (fun _ _ _ _ _ => pts_nil)
        (fun _ _ _ _ _ => pe_tup (pa_cons (pe_ix (r := rIxL K) ix_list (pv 3) (pv 5) (fun _ _ => rfl)) (pa_cons (pe_g (E := E00) (ok_lvalue T) hr pass0 (pa_cons (pv 0) pa_nil)) (pa_cons (pe_ix (r := rIxL K) ix_list (pv 4) (pv 5) (fun _ _ => rfl)) pa_nil)))))))), ?_⟩
    refine ⟨_, rfl, _, rfl, _, _, rfl, rfl, W, m + 1, c, rfl, hW, by omega, by omega, by omega, fun v H1 e1 hW1 hv => ?_⟩
    obtain ⟨k, rfl, hk⟩ := hv
    refine ⟨_, rfl, _, rfl, W, k, c + 1, rfl, hW1, by omega, by omega, fun v H2 e2 hW2 hv => ?_⟩
    obtain ⟨ln, ns, rfl, hln, hnl, hnd, hok⟩ := hv
    refine ⟨_, rfl, _, rfl, W, k, c + 401, rfl, hW2, by omega, by omega, fun v H3 e3 hW3 hv => ?_⟩
    obtain ⟨ll, ls, rfl, hll, hlll, hLv⟩ := hv
    refine ⟨(by show 2 ≤ sizeLine; decide), fun t ht => ⟨t, _, rfl, SqT.of upd_same, rfl, _, _, rfl, _, _, rfl, rfl, ?_⟩⟩
    have e34 := Ex.new (o := .tup [.ref ln, .ref ll]) ht
    have hW4 := hW3.mono e34
    have hln4 := Wx.of (W := W) e34 _ _ (e3 _ _ hln)
    have hll4 := Wx.of (W := W) e34 _ _ hll
    have e4 := ((e1.trans e2).trans e3).trans (Wx.of e34)
    generalize upd H3 t (.tup [.ref ln, .ref ll]) = H4 at e34 hW4 hln4 hll4 e4
    refine ⟨_, rfl, _, rfl, by omega, by omega, fun D hD => ?_⟩
    have hDW : D ≠ W := hW4.np hD
    rw [show ((k : Nat) : Int).toNat = k by omega]
    refine lc_by k (fun i H' => Wx W H4 H' ∧ WellAt H' W (c + 601 + 10 * i) ∧ ∃ ws rs, del H' W D = some (.lst ws) ∧ RowsAt (del H' W) ws rs ∧ FM.names rs = ns.take i ∧ rs.map (·.l) = ls.take i ∧ ∀ r ∈ rs, vvOk r.v)
      ⟨Wx.of (Ex.new hD), hW4.new hD, [], [], del_in upd_same hDW, trivial, rfl, rfl, fun r h => by cases h⟩ (fun i H' hi hP => hi) (fun H' hP => Nat.le_refl _) (fun i x H' H'' hi hP hy => ?_) fun H' hP => ?_
    · obtain ⟨rfl, rfl⟩ := hy
      obtain ⟨e5, hW5, ws, rs, hws, hR, hn5, hl5, hv5⟩ := hP
      have hni : ns[i]? = some ns[i] := List.getElem?_eq_getElem (by omega)
      have hli : ls[i]? = some ls[i] := List.getElem?_eq_getElem (by omega)
      generalize ns[i]'(by omega) = n at hni
      generalize ls[i]'(by omega) = lv at hli
      have hrl : rs.length = i := by rw [← names_len, hn5, List.length_take]; omega
      refine ⟨rfl, _, rfl, _, rfl, ln, sVs ns, _, .str n, rfl, rfl, SqL.of (del_of (e5 _ _ hln4)).1, ?_, _, rfl, W, c + 601 + 10 * i, rfl, hW5, by omega, fun v H6 e6 hW6 hv => ?_⟩
      · rw [show (0 : Int) + (i : Nat) = ((i : Nat) : Int) by omega]
        exact atI_nat (by show (List.map V.str ns)[i]? = _; rw [List.getElem?_map, hni]; rfl)
      obtain ⟨z, rfl, hz⟩ := hv
      refine ⟨_, rfl, _, rfl, ll, iVs ls, _, .int lv, rfl, rfl, SqL.of (del_of (e6 _ _ (e5 _ _ hll4))).1, ?_, (by show 3 ≤ sizeLine; decide), fun t2 ht2 => ?_⟩
      · rw [show (0 : Int) + (i : Nat) = ((i : Nat) : Int) by omega]
        exact atI_nat (by show (List.map V.int ls)[i]? = _; rw [List.getElem?_map, hli]; rfl)
      have e67 := Ex.new (o := .tup [.str n, .int z, .int lv]) ht2
      have hD7 := Wx.of (W := W) e67 _ _ (e6 _ _ hws)
      have hW7 := hW6.mono e67
      have hR7 := (hR.mono e6).mono (Wx.of (W := W) e67)
      have ht2W : t2 ≠ W := hW6.np ht2
      have ht7 : del (upd H6 t2 (.tup [.str n, .int z, .int lv])) W t2 = some (.tup [.str n, .int z, .int lv]) := del_in upd_same ht2W
      have e57 := (e5.trans e6).trans (Wx.of e67)
      generalize upd H6 t2 (.tup [.str n, .int z, .int lv]) = H7 at e67 hD7 hW7 hR7 ht7 e57
      refine ⟨ws, (del_of hD7).1, szLt (by rw [hR.len, hrl]; omega), e57.mut hD, (hW7.updN (Ne.symm hDW)).le (by omega), ws ++ [.ref t2], rs ++ [⟨n, z, lv⟩], del_in upd_same hDW, rows_updW hD7 (hR7.snoc (r := (⟨n, z, lv⟩ : R)) ⟨t2, rfl, ht7⟩), ?_, ?_, fun r hr' => ?_⟩
      · rw [FM.names_app, hn5, take_snoc hni]; rfl
      · rw [List.map_append, hl5, take_snoc hli]; rfl
      · rcases List.mem_append.mp hr' with h | h
        · exact hv5 r h
        · rw [List.mem_singleton.mp h]; exact hz
    · obtain ⟨e5, hW5, ws, rs, hws, hR, hn5, hl5, hv5⟩ := hP
      rw [← hnl, List.take_length] at hn5
      rw [← hlll, List.take_length] at hl5
      have hrl : rs.length = k := by rw [← names_len, hn5, hnl]
      refine q _ H' (e4.trans e5) (hW5.le (by omega)) ⟨D, ws, rs, rfl, hws, hR, ⟨lv_steps (by rw [hl5]; exact hLv), ⟨?_, ?_, ?_, ?_⟩⟩, by omega⟩
      · rw [FM.keys_names, hn5]; exact hnd
      · intro kk hkk
        obtain ⟨r, hr1, rfl⟩ := List.mem_map.mp hkk
        exact hok _ (by rw [← hn5]; exact FM.mem_names hr1)
      · intro kk hkk
        obtain ⟨r, hr1, rfl⟩ := List.mem_map.mp hkk
        exact hv5 r hr1
      · rw [FM.keys_len]; omega
theorem ok_lnew (T : Tx K mg) : GFn P w K mg base "_law_new_name" CX0 4 ["_law_well_here", "_law_names_here"] spNewN := by
  obtain ⟨fd, F⟩ := T.d_law_new_name
  refine gfn T.g_law_new_name F (F.bindsN fun _ _ _ _ _ _ us hl => match us, hl with | [_, _], _ => rfl) (ok0 F sc_law_new_name (fun vs H Q E h => ?_) fun cdv A outer s H vs Q E hr h => ?_)
  · obtain ⟨W, a, ns, c, rfl, _⟩ := h; rfl
  · obtain ⟨W, a, ns, c, rfl, hW, hc, ha, hnl, q⟩ := h
    refine ⟨_, Evl.pss_cut (ps_setLc (i := 2) (own := [("_law_k", 4)]) (g := gName 4) (tt := tYes) rfl sc_law_new_name.nd rfl rfl (sw_true rfl rfl rfl (by decide +kernel)) (pi_range1 rfl T.z_range (pa_cons pe_int pa_nil)) (blkOk_by (N := N_law_new_name) (sc := defScope st_law_new_name) (by decide +kernel)) (fun _ _ _ _ _ => pg_name (i := 4) sc_law_new_name.nd rfl (.inl rfl)) (fun _ _ _ _ _ => pts_nil)
        (fun _ _ _ _ _ => pe_op op_add_str pe_str (pe_callTy call_str_int rfl T.z_str b_str (pa_cons (pv 4) pa_nil))))
      (Evl.pss_cut (ps_setLc (i := 3) (own := [("_law_name", 5)]) (g := gName 5) (tt := tTest (tOp (rIn K true) (tVar 5) (tVar 1))) rfl sc_law_new_name.nd rfl rfl (sw_true rfl rfl rfl (by decide +kernel)) (pi_seqA (pe_op op_cat (pe_g (ok_lnames T) hr pass0 (pa_cons (pv 0) (pa_cons pe_int pa_nil))) (pv 2))) (blkOk_by (N := N_law_new_name) (sc := defScope st_law_new_name) (by decide +kernel)) (fun _ _ _ _ _ => pg_name (i := 5) sc_law_new_name.nd rfl (.inl rfl))
        (fun _ _ _ _ _ => pts_one (pt_cmpR (r := rIn K true) op_notIn_seq (pv 5) (pv 1) (by rfl))) (fun _ _ _ _ _ => pv 5))
      (pss_one (ps_ret (pe_ix ix_list (pv 3) pe_int (fun _ _ => rfl))))), ?_⟩
    let sp0 : List Str := (List.range 61).map qs
    refine ⟨fun σ H' => ∃ l, σ = [some (.ref W), some (.ref a), some (.ref l), none, none, none] ∧ Ex H H' ∧ H' l = some (.lst (sVs ((List.range 61).map qs))) ∧ H l = none, ?_, ?_⟩
    · refine ⟨_, rfl, by decide, by decide, fun D hD => ?_⟩
      refine lc_by 61 (fun i H' => Ex H H' ∧ H' D = some (.lst (sVs ((List.range i).map qs)))) ⟨Ex.new hD, upd_same⟩ (fun i H' hi hP => hi) (fun H' hP => Nat.le_refl _) (fun i x H' H'' hi hP hy => ?_) fun H' hP => ⟨D, rfl, hP.1, hP.2, hD⟩
      obtain ⟨rfl, rfl⟩ := hy
      refine ⟨rfl, _, rfl, _, rfl, ?_, _, _, rfl, rfl, ?_, _, hP.2, szLt (by rw [sVs_len, List.length_map, List.length_range]; omega), hP.1.mut hD, ?_⟩
      · have : ((0 : Int) + (i : Nat)).natAbs = i := by omega
        rw [this]
        exact Nat.lt_of_le_of_lt (Nat.log2_le_self i) (by omega)
      · have := nameOk_len (qs_ok i (List.mem_range.mpr hi))
        have e0 : (qs i).length = ("q9" : Str).length + (Str.ofString (toString ((i : Nat) : Int))).length := by
          rw [← cl_len]; unfold qs; rw [cl_app, List.length_append, cl_len, cl_len]
        rw [show (0 : Int) + (i : Nat) = ((i : Nat) : Int) by omega]
        exact szOf (by rw [← e0]; omega)
      · rw [upd_same, List.range_succ, List.map_append]
        show _ = some (HO.lst (sVs (List.map qs (List.range i) ++ [qs i])))
        rw [sVs_snoc, show qs i = "q9" ++ Str.ofString (toString ((0 : Int) + (i : Nat))) by rw [show (0 : Int) + (i : Nat) = ((i : Nat) : Int) by omega]; rfl]
    rintro σ H1 ⟨l1, rfl, e1, h1, hl1⟩
    have hl1W : l1 ≠ W := hW.np hl1
    refine ⟨fun σ H' => ∃ l fs, (∃ n v, σ = [some (.ref W), some (.ref a), some (.ref l1), some (.ref l), n, v]) ∧ Wx W H H' ∧ WellAt H' W (c + 400) ∧ H' l = some (.lst (sVs fs)) ∧ fs ≠ [] ∧ ∀ n ∈ fs, nameOk n = true ∧ n ∉ ns, ?_, ?_⟩
    · refine ⟨_, rfl, W, 4, c, rfl, hW.mono e1, by omega, by decide, fun v H2 e2 hW2 hv => ?_⟩
      obtain ⟨l2, n2, rfl, hl2, hn2, _, hok2⟩ := hv
      have h12 := (del_of (e2 _ _ (del_in h1 hl1W))).1
      refine ⟨_, rfl, cat_l (del_of hl2).1 h12 (by rw [sVs_len, sVs_len, hn2, List.length_map, List.length_range]; decide) fun l3 hl3 => ?_⟩
      have e23 := Ex.new (o := .lst (sVs n2 ++ sVs ((List.range 61).map qs))) hl3
      have h3 : upd H2 l3 (.lst (sVs n2 ++ sVs ((List.range 61).map qs))) l3 = some (.lst (sVs (n2 ++ (List.range 61).map qs))) := by rw [upd_same]; show _ = some (HO.lst (List.map _ _)); rw [List.map_append]
      have hW3 := hW2.mono e23
      have e3 := ((Wx.of (W := W) e1).trans e2).trans (Wx.of e23)
      have ha3 := e3 _ _ ha
      have hl3W : l3 ≠ W := hW2.np hl3
      generalize upd H2 l3 (.lst (sVs n2 ++ sVs ((List.range 61).map qs))) = H3 at e23 h3 hW3 e3 ha3
      have hall : ∀ s ∈ n2 ++ (List.range 61).map qs, nameOk s = true := fun s hs => by
        rcases List.mem_append.mp hs with h | h
        · exact hok2 s h
        · obtain ⟨k, hk, rfl⟩ := List.mem_map.mp h
          exact qs_ok k hk
      have hlen : (n2 ++ (List.range 61).map qs).length = 65 := by rw [List.length_append, hn2, List.length_map, List.length_range]
      have hfree : (n2 ++ (List.range 61).map qs).filter (fun s => decide (s ∉ ns)) ≠ [] := fun z => by
        obtain ⟨s, hs, hns⟩ := qs_free hnl
        have : s ∈ (n2 ++ (List.range 61).map qs).filter (fun s => decide (s ∉ ns)) := List.mem_filter.mpr ⟨List.mem_append_right _ hs, decide_eq_true hns⟩
        rw [z] at this
        cases this
      generalize n2 ++ (List.range 61).map qs = all at h3 hall hlen hfree
      refine ⟨l3, true, sVs all, rfl, Sk.l h3, fun J S D hD => ?_⟩
      have hDW : D ≠ W := hW3.np hD
      refine lc_by (sVs all).length (fun i H' => Ex H3 H' ∧ H' D = some (.lst (sVs ((all.take i).filter (fun s => decide (s ∉ ns)))))) ⟨Ex.new hD, upd_same⟩ (fun i H' hi hP => S.go i H' (Sk.l (hP.1 _ _ h3)) hi) (fun H' hP => S.stop H' (Sk.l (hP.1 _ _ h3))) (fun i x H' H'' hi hP hy => ?_) fun H' hP => ?_
      · obtain ⟨e0, hx⟩ := S.yld i H' x H'' (Sk.l (hP.1 _ _ h3)) hy
        subst e0
        rw [sVs_len] at hi
        have hki : all[i]? = some all[i] := List.getElem?_eq_getElem hi
        generalize all[i] = m at hki
        have hx' : x = .str m := by
          have : (List.map V.str all)[i]? = some x := hx
          rw [List.getElem?_map, hki] at this
          exact (Option.some.inj this).symm
        subst hx'
        have ha5 := hP.1 _ _ (del_of ha3).1
        refine ⟨rfl, _, rfl, _, rfl, a, sVs ns, rfl, .inl (SqL.of ha5), rfl, flat_strs, _, rfl, iteB (congrArg (fun b => !b) inV_strs) ?_⟩
        have fl : ((all.take i).filter (fun s => decide (s ∉ ns))).length ≤ 65 := by
          refine Nat.le_trans (List.length_filter_le _ _) ?_
          rw [List.length_take]
          omega
        by_cases hm : m ∈ ns
        · refine iteND hm ⟨hP.1, ?_⟩
          rw [hP.2, take_snoc hki, List.filter_append]
          simp [hm]
        · refine iteNDn hm ⟨_, rfl, _, hP.2, szLt (by rw [sVs_len]; omega), hP.1.mut hD, ?_⟩
          rw [upd_same, take_snoc hki, List.filter_append]
          have : [m].filter (fun s => decide (s ∉ ns)) = [m] := by simp [hm]
          rw [this, sVs_snoc]
      · have hD2 := hP.2
        rw [sVs_len, List.take_length] at hD2
        refine ⟨D, _, ⟨_, _, rfl⟩, e3.trans (Wx.of hP.1), (hW3.mono hP.1).le (by omega), hD2, hfree, fun n hn => ?_⟩
        obtain ⟨hn1, hn2⟩ := List.mem_filter.mp hn
        exact ⟨hall n hn1, of_decide_eq_true hn2⟩
    · rintro σ H2 ⟨l, fs, ⟨n, v, rfl⟩, e2, hW2, h2, hne, hfs⟩
      cases fs with
      | nil => exact absurd rfl hne
      | cons f0 fs =>
        have := hfs f0 List.mem_cons_self
        exact ⟨_, rfl, l, _, 0, .str f0, rfl, rfl, SqL.of h2, atI_nat (j := 0) rfl, q _ H2 e2 hW2 ⟨f0, rfl, this.1, this.2⟩⟩
end
end K13
end
section
set_option Elab.async false
set_option linter.all false
set_option maxRecDepth 100000
set_option maxHeartbeats 4000000
namespace K13
open PySem PySem.Spec PyProof.Rows L2
open Evl (Ex)
def kindN : DV → Nat
  | .put _ _ _ _ => 0
  | .move _ _ _ => 1
  | .cut _ => 2
  | .lift _ => 3
  | .wrap _ _ _ _ _ => 4
  | .rev _ => 5
  | .setv _ _ => 6
def spLDeed (K : PySem.W.Frag) : Sp := fun vs H Q _ => ∃ (a : Addr) (d : DV), vs = [.int ((kindN d : Nat) : Int), .ref a] ∧ H a = some (.lst d.args) ∧ ∀ x H', H x = none → Ex H H' → DeedAt K H' x d → Q (.ref x) H'
def spLSub : Sp := fun vs H Q _ => ∃ a xs rs n, vs = [.ref a, .str n] ∧ H a = some (.lst xs) ∧ RowsAt H xs rs ∧ Okf rs ∧ n ∈ FM.names rs ∧ NewL (sVs (n :: FM.names (FM.bel rs n))) H Q
def spLKids : Sp := fun vs H Q _ => ∃ a xs rs po, vs = [.ref a, optV po] ∧ H a = some (.lst xs) ∧ RowsAt H xs rs ∧ Okf rs ∧ FM.parOk rs po ∧ NewL (sVs (FM.kidsOf rs po)) H Q
/-! ## rows by name -/
theorem filt_none {f : R → Bool} {l : FM.Rows Str} (h : ∀ r ∈ l, f r = false) : l.filter f = [] := List.filter_eq_nil_iff.mpr fun r hr => by rw [h r hr]; exact Bool.false_ne_true
theorem parts_no {A B C : FM.Rows Str} {X : R} (nd : (FM.names (A ++ X :: (B ++ C))).Nodup) : (∀ r ∈ A, r.n ≠ X.n ∧ r.n ∉ FM.names B) ∧ (∀ r ∈ B, r.n ≠ X.n) ∧ ∀ r ∈ C, r.n ≠ X.n ∧ r.n ∉ FM.names B := by
  have e : FM.names (A ++ X :: (B ++ C)) = FM.names A ++ X.n :: (FM.names B ++ FM.names C) := by
    rw [FM.names_app]
    congr 1
    show X.n :: FM.names (B ++ C) = _
    rw [FM.names_app]
  rw [e, List.nodup_append, List.nodup_cons, List.nodup_append] at nd
  obtain ⟨n1, ⟨n2, n3, n4, n5⟩, n6⟩ := nd
  refine ⟨fun r hr => ⟨n6 _ (FM.mem_names hr) _ List.mem_cons_self, fun hb => n6 _ (FM.mem_names hr) _ (List.mem_cons_of_mem _ (List.mem_append_left _ hb)) rfl⟩, fun r hr h => n2 (List.mem_append_left _ (h ▸ FM.mem_names hr)), fun r hr => ⟨fun h => n2 (List.mem_append_right _ (h ▸ FM.mem_names hr)), fun hb => n5 _ hb _ (FM.mem_names hr) rfl⟩⟩
theorem kids_filter {rs : FM.Rows Str} (ok : Okf rs) {p : Str} (hp : p ∈ FM.names rs) : FM.names (rs.filter fun r => decide (r.n ∈ p :: FM.names (FM.bel rs p)) && decide (r.l = FM.lv rs p + 1)) = FM.kidsOf rs (some p) := by
  obtain ⟨A, X, B, C, a, rfl⟩ := FM.at_of ok.st ok.nd hp
  show _ = FM.names ((FM.bel rs X.n).filter fun r => decide (r.l = FM.lv rs X.n + 1))
  rw [a.bel, a.lv]
  have nd := ok.nd
  rw [a.eq] at nd
  obtain ⟨nA, nB, nC⟩ := parts_no nd
  conv => lhs; rw [a.eq]
  rw [List.filter_append, List.filter_cons, List.filter_append]
  rw [filt_none (l := A) fun r hr => by rw [decide_eq_false (fun h => (List.mem_cons.mp h).elim (nA r hr).1 (nA r hr).2)]; rfl,
    filt_none (l := C) fun r hr => by rw [decide_eq_false (fun h => (List.mem_cons.mp h).elim (nC r hr).1 (nC r hr).2)]; rfl,
    if_neg (by rw [decide_eq_false (by omega : ¬ X.l = X.l + 1), Bool.and_false]; exact Bool.false_ne_true), List.append_nil, List.nil_append]
  congr 1
  refine List.filter_congr fun r hr => ?_
  rw [decide_eq_true (List.mem_cons_of_mem _ (FM.mem_names hr)), Bool.true_and]
theorem one_filter {rs : FM.Rows Str} (ok : Okf rs) {p : Str} (hp : p ∈ FM.names rs) : ((rs.filter fun r => decide (r.n = p)).map (·.l)) = [FM.lv rs p] := by
  obtain ⟨A, X, B, C, a, rfl⟩ := FM.at_of ok.st ok.nd hp
  rw [a.lv]
  have nd := ok.nd
  rw [a.eq] at nd
  obtain ⟨nA, nB, nC⟩ := parts_no nd
  conv => lhs; rw [a.eq]
  rw [List.filter_append, List.filter_cons, List.filter_append]
  rw [filt_none (l := A) fun r hr => decide_eq_false (nA r hr).1, filt_none (l := B) fun r hr => decide_eq_false (nB r hr), filt_none (l := C) fun r hr => decide_eq_false (nC r hr).1, if_pos (decide_eq_true rfl)]
  rfl
section
variable {P : Program} {w : World} {K : PySem.W.Frag} {mg : Str → Option Value} {base : Heap}
theorem ok_ldeed (T : Tx K mg) : GFn P w K mg base "_law_deed" CX0 3 ["_law_kind", "_law_fields"] (spLDeed K) := by
  obtain ⟨fd, F⟩ := T.d_law_deed
  refine gfn T.g_law_deed F (F.bindsN fun _ _ _ _ _ _ us hl => match us, hl with | [_, _], _ => rfl) (ok0 F sc_law_deed (fun vs H Q E h => ?_) fun cdv A outer s H vs Q E hr h => ?_)
  · obtain ⟨a, d, rfl, _⟩ := h; rfl
  · obtain ⟨a, d, rfl, ha, q⟩ := h
    refine ⟨_, pss_cons (ps_if (pt_cmpR op_eq (pv 0) pe_int (nomark _)) (pss_one (ps_ret (pe_k (ok_Put_init T) hr pass0 (pa_cons (pe_ix ix_list (pv 1) pe_int (fun _ _ => rfl)) (pa_cons (pe_ix ix_list (pv 1) pe_int (fun _ _ => rfl)) (pa_cons (pe_ix ix_list (pv 1) pe_int (fun _ _ => rfl)) (pa_cons (pe_ix ix_list (pv 1) pe_int (fun _ _ => rfl)) pa_nil))))))) pss_nil)
      (pss_cons (ps_if (pt_cmpR op_eq (pv 0) pe_int (nomark _)) (pss_one (ps_ret (pe_k (ok_Move_init T) hr pass0 (pa_cons (pe_ix ix_list (pv 1) pe_int (fun _ _ => rfl)) (pa_cons (pe_ix ix_list (pv 1) pe_int (fun _ _ => rfl)) (pa_cons (pe_ix ix_list (pv 1) pe_int (fun _ _ => rfl)) pa_nil)))))) pss_nil)
      (pss_cons (ps_if (pt_cmpR op_eq (pv 0) pe_int (nomark _)) (pss_one (ps_ret (pe_k (ok_Cut_init T) hr pass0 (pa_cons (pe_ix ix_list (pv 1) pe_int (fun _ _ => rfl)) pa_nil)))) pss_nil)
      (pss_cons (ps_if (pt_cmpR op_eq (pv 0) pe_int (nomark _)) (pss_one (ps_ret (pe_k (ok_Lift_init T) hr pass0 (pa_cons (pe_ix ix_list (pv 1) pe_int (fun _ _ => rfl)) pa_nil)))) pss_nil)
      (pss_cons (ps_if (pt_cmpR op_eq (pv 0) pe_int (nomark _)) (pss_one (ps_ret (pe_k (ok_Wrap_init T) hr pass0 (pa_cons (pe_ix ix_list (pv 1) pe_int (fun _ _ => rfl)) (pa_cons (pe_ix ix_list (pv 1) pe_int (fun _ _ => rfl)) (pa_cons (pe_ix ix_list (pv 1) pe_int (fun _ _ => rfl)) (pa_cons (pe_ix ix_list (pv 1) pe_int (fun _ _ => rfl)) (pa_cons (pe_ix ix_list (pv 1) pe_int (fun _ _ => rfl)) pa_nil)))))))) pss_nil)
      (pss_cons (ps_if (pt_cmpR op_eq (pv 0) pe_int (nomark _)) (pss_one (ps_ret (pe_k (ok_Reverse_init T) hr pass0 (pa_cons (pe_ix ix_list (pv 1) pe_int (fun _ _ => rfl)) pa_nil)))) pss_nil)
      (pss_one (ps_ret (pe_k (ok_SetValue_init T) hr pass0 (pa_cons (pe_ix ix_list (pv 1) pe_int (fun _ _ => rfl)) (pa_cons (pe_ix ix_list (pv 1) pe_int (fun _ _ => rfl)) pa_nil)))))))))), ?_⟩
    have S := fun {xs : List V} (h : H a = some (.lst xs)) => (SqL.of h : SqL K H a xs)
    have no : ∀ {i j : Nat} {A B : Prop}, i ≠ j → B → (if decide (V.int ((i : Nat) : Int) = .int ((j : Nat) : Int)) = true then A else B) := fun h b => iteDn (fun z => h (by have := V.int.inj z; omega)) b
    cases d with
    | put n v p r =>
      have ha : H a = some (.lst [n, v, p, r]) := ha
      refine ⟨_, rfl, rfl, _, rfl, iteD rfl ⟨_, rfl, a, _, _, _, rfl, rfl, S ha, atI_nat (j := 0) rfl, _, rfl, a, _, _, _, rfl, rfl, S ha, atI_nat (j := 1) rfl, _, rfl, a, _, _, _, rfl, rfl, S ha, atI_nat (j := 2) rfl, _, rfl, a, _, _, _, rfl, rfl, S ha, atI_nat (j := 3) rfl, ?_⟩⟩
      intro x dx hx hdx hne
      exact mk_deed (K := K) (c := "Put") (.put n v p r) hx hdx rfl rfl fun H9 e9 hd9 => ⟨rfl, q x H9 hx e9 hd9⟩
    | move n p r =>
      have ha : H a = some (.lst [n, p, r]) := ha
      refine ⟨_, rfl, rfl, _, rfl, no (i := 1) (j := 0) (by decide) ⟨_, rfl, rfl, _, rfl, iteD rfl ⟨_, rfl, a, _, _, _, rfl, rfl, S ha, atI_nat (j := 0) rfl, _, rfl, a, _, _, _, rfl, rfl, S ha, atI_nat (j := 1) rfl, _, rfl, a, _, _, _, rfl, rfl, S ha, atI_nat (j := 2) rfl, ?_⟩⟩⟩
      intro x dx hx hdx hne
      exact mk_deed (K := K) (c := "Move") (.move n p r) hx hdx rfl rfl fun H9 e9 hd9 => ⟨rfl, q x H9 hx e9 hd9⟩
    | cut n =>
      have ha : H a = some (.lst [n]) := ha
      refine ⟨_, rfl, rfl, _, rfl, no (i := 2) (j := 0) (by decide) ⟨_, rfl, rfl, _, rfl, no (i := 2) (j := 1) (by decide) ⟨_, rfl, rfl, _, rfl, iteD rfl ⟨_, rfl, a, _, _, _, rfl, rfl, S ha, atI_nat (j := 0) rfl, ?_⟩⟩⟩⟩
      intro x dx hx hdx hne
      exact mk_deed (K := K) (c := "Cut") (.cut n) hx hdx rfl rfl fun H9 e9 hd9 => ⟨rfl, q x H9 hx e9 hd9⟩
    | lift n =>
      have ha : H a = some (.lst [n]) := ha
      refine ⟨_, rfl, rfl, _, rfl, no (i := 3) (j := 0) (by decide) ⟨_, rfl, rfl, _, rfl, no (i := 3) (j := 1) (by decide) ⟨_, rfl, rfl, _, rfl, no (i := 3) (j := 2) (by decide) ⟨_, rfl, rfl, _, rfl, iteD rfl ⟨_, rfl, a, _, _, _, rfl, rfl, S ha, atI_nat (j := 0) rfl, ?_⟩⟩⟩⟩⟩
      intro x dx hx hdx hne
      exact mk_deed (K := K) (c := "Lift") (.lift n) hx hdx rfl rfl fun H9 e9 hd9 => ⟨rfl, q x H9 hx e9 hd9⟩
    | wrap n v p f l =>
      have ha : H a = some (.lst [n, v, p, f, l]) := ha
      refine ⟨_, rfl, rfl, _, rfl, no (i := 4) (j := 0) (by decide) ⟨_, rfl, rfl, _, rfl, no (i := 4) (j := 1) (by decide) ⟨_, rfl, rfl, _, rfl, no (i := 4) (j := 2) (by decide) ⟨_, rfl, rfl, _, rfl, no (i := 4) (j := 3) (by decide) ⟨_, rfl, rfl, _, rfl, iteD rfl ⟨_, rfl, a, _, _, _, rfl, rfl, S ha, atI_nat (j := 0) rfl, _, rfl, a, _, _, _, rfl, rfl, S ha, atI_nat (j := 1) rfl, _, rfl, a, _, _, _, rfl, rfl, S ha, atI_nat (j := 2) rfl, _, rfl, a, _, _, _, rfl, rfl, S ha, atI_nat (j := 3) rfl, _, rfl, a, _, _, _, rfl, rfl, S ha, atI_nat (j := 4) rfl, ?_⟩⟩⟩⟩⟩⟩
      intro x dx hx hdx hne
      exact mk_deed (K := K) (c := "Wrap") (.wrap n v p f l) hx hdx rfl rfl fun H9 e9 hd9 => ⟨rfl, q x H9 hx e9 hd9⟩
    | rev p =>
      have ha : H a = some (.lst [p]) := ha
      refine ⟨_, rfl, rfl, _, rfl, no (i := 5) (j := 0) (by decide) ⟨_, rfl, rfl, _, rfl, no (i := 5) (j := 1) (by decide) ⟨_, rfl, rfl, _, rfl, no (i := 5) (j := 2) (by decide) ⟨_, rfl, rfl, _, rfl, no (i := 5) (j := 3) (by decide) ⟨_, rfl, rfl, _, rfl, no (i := 5) (j := 4) (by decide) ⟨_, rfl, rfl, _, rfl, iteD rfl ⟨_, rfl, a, _, _, _, rfl, rfl, S ha, atI_nat (j := 0) rfl, ?_⟩⟩⟩⟩⟩⟩⟩
      intro x dx hx hdx hne
      exact mk_deed (K := K) (c := "Reverse") (.rev p) hx hdx rfl rfl fun H9 e9 hd9 => ⟨rfl, q x H9 hx e9 hd9⟩
    | setv n v =>
      have ha : H a = some (.lst [n, v]) := ha
      refine ⟨_, rfl, rfl, _, rfl, no (i := 6) (j := 0) (by decide) ⟨_, rfl, rfl, _, rfl, no (i := 6) (j := 1) (by decide) ⟨_, rfl, rfl, _, rfl, no (i := 6) (j := 2) (by decide) ⟨_, rfl, rfl, _, rfl, no (i := 6) (j := 3) (by decide) ⟨_, rfl, rfl, _, rfl, no (i := 6) (j := 4) (by decide) ⟨_, rfl, rfl, _, rfl, no (i := 6) (j := 5) (by decide) ⟨_, rfl, a, _, _, _, rfl, rfl, S ha, atI_nat (j := 0) rfl, _, rfl, a, _, _, _, rfl, rfl, S ha, atI_nat (j := 1) rfl, ?_⟩⟩⟩⟩⟩⟩⟩
      intro x dx hx hdx hne
      exact mk_deed (K := K) (c := "SetValue") (.setv n v) hx hdx rfl rfl fun H9 e9 hd9 => ⟨rfl, q x H9 hx e9 hd9⟩
theorem ok_lsub (T : Tx K mg) : GFn P w K mg base "_law_subtree" CX0 1 ["_law_rows_here", "_law_name"] spLSub := by
  obtain ⟨fd, F⟩ := T.d_law_subtree
  refine gfn T.g_law_subtree F (F.bindsN fun _ _ _ _ _ _ us hl => match us, hl with | [_, _], _ => rfl) (ok0 F sc_law_subtree (fun vs H Q E h => ?_) fun cdv A outer s H vs Q E hr h => ?_)
  · obtain ⟨a, xs, rs, n, rfl, _⟩ := h; rfl
  · obtain ⟨a, xs, rs, n, rfl, ha, hR, ok, hn, q⟩ := h
    refine ⟨_, Evl.pss_cut (ps_set (i := 2) sc_law_subtree.nd rfl (.inl rfl) (pe_bm PySem.F.plainAttrs_list PySem.F.slot_list_index PySem.F.type_list_index mt_index (pe_lc (own := [("_law_row", 4)]) (g := gName 4) (tt := tYes) rfl sc_law_subtree.nd (pi_seqA (pv 0)) (blkOk_by (N := N_law_subtree) (sc := defScope st_law_subtree) (by decide +kernel)) (fun _ _ _ _ _ => pg_name (i := 4) sc_law_subtree.nd rfl (.inl rfl)) (fun _ _ _ _ _ => pts_nil)
        (fun _ _ _ _ _ => pe_ix (r := rIxT K) ix_tup (pv 4) pe_int (fun _ _ => rfl))) (pa_cons (pv 1) pa_nil)))
      (pss_cons (ps_set (i := 3) sc_law_subtree.nd rfl (.inl rfl) (pe_lst (pa_cons (pv 1) pa_nil)))
      (pss_cons (ps_for PassesOwn.never rfl (pi_seqA (pe_slice sl_list (pv 0) (po_some (pe_op op_add (pv 2) pe_int)) po_none)) (pg_name (i := 4) sc_law_subtree.nd rfl (.inl rfl))
        (pss_cons (ps_if (pt_cmpR op_le (pe_ix ix_tup (pv 4) pe_int (fun _ _ => rfl)) (pe_ix ix_tup (pe_ix ix_list (pv 0) (pv 2) (fun _ _ => rfl)) pe_int (fun _ _ => rfl)) (nomark _)) (pss_one (ps_ret (pv 3))) pss_nil)
        (pss_one (ps_expr (pe_bm PySem.F.plainAttrs_list PySem.F.slot_list_append PySem.F.type_list_append mt_append (pv 3) (pa_cons (pe_ix ix_tup (pv 4) pe_int (fun _ _ => rfl)) pa_nil))))))
      (pss_one (ps_ret (pv 3))))), ?_⟩
    have hlen := hR.len
    have h60 := ok.len
    refine ⟨fun σ H' => σ = [some (.ref a), some (.str n), some (.int ((FM.pl rs n : Nat) : Int)), none, none] ∧ Ex H H', ?_, ?_⟩
    · refine ⟨_, rfl, a, true, xs, rfl, Sk.l ha, fun J S D hD => ?_⟩
      refine lc_by xs.length (fun i H' => Ex H H' ∧ H' D = some (.lst (sVs ((FM.names rs).take i)))) ⟨Ex.new hD, upd_same⟩ (fun i H' hi hP => S.go i H' (Sk.l (hP.1 _ _ ha)) hi) (fun H' hP => S.stop H' (Sk.l (hP.1 _ _ ha))) (fun i x H' H'' hi hP hy => ?_) fun H' hP => ?_
      · obtain ⟨e0, hx⟩ := S.yld i H' x H'' (Sk.l (hP.1 _ _ ha)) hy
        subst e0
        obtain ⟨r', hr', q', rfl, hq'⟩ := hR.get hx
        refine ⟨rfl, _, rfl, q', _, _, _, rfl, rfl, SqT.of (hP.1 _ _ hq'), atI_nat (j := 0) rfl, _, hP.2, szLt (by rw [sVs_len, List.length_take, names_len]; omega), hP.1.mut hD, ?_⟩
        rw [upd_same, take_snoc (names_get hr'), sVs_snoc]
      · have hD' := hP.2
        rw [hlen, ← names_len, List.take_length] at hD'
        refine ⟨.inl ⟨rfl, _, SqL.of hD'⟩, _, rfl, ?_⟩
        dsimp only [tNil]
        exact ix_name hD' hn ⟨rfl, hP.1⟩
    rintro σ H1 ⟨rfl, e1⟩
    obtain ⟨rw, er, en, ev, el⟩ := row_at hn
    obtain ⟨v, hv, qq, rfl, hq⟩ := hR.getR er
    refine ⟨_, rfl, (by show 1 ≤ sizeLine; decide), fun f hf => ?_⟩
    have hfn := Evl.fresh_back e1 hf
    have e12 := Ex.new (o := .lst [.str n]) hf
    have e2 := e1.trans e12
    have hf2 : upd H1 f (.lst [.str n]) f = some (.lst (sVs [n])) := upd_same
    generalize upd H1 f (.lst [.str n]) = H2 at e12 e2 hf2
    refine ⟨_, rfl, _, rfl, _, _, rfl, rfl, _, rfl, a, xs, rfl, SqL.of (e2 _ _ ha), fun c hc => ?_⟩
    rw [show ((FM.pl rs n : Nat) : Int) + 1 = ((FM.pl rs n + 1 : Nat) : Int) by omega, cut_drop]
    have e23 := Ex.new (o := .lst (xs.drop (FM.pl rs n + 1))) hc
    have hcf : c ≠ f := Ne.symm (ne_of_none hf2 hc)
    have hRv : RowsAt H (xs.drop (FM.pl rs n + 1)) (rs.drop (FM.pl rs n + 1)) := hR.drop _
    have hL : (xs.drop (FM.pl rs n + 1)).length = (rs.drop (FM.pl rs n + 1)).length := hRv.len
    have hL2 : (rs.drop (FM.pl rs n + 1)).length ≤ 60 := by rw [List.length_drop]; omega
    refine ⟨c, true, _, rfl, Sk.l upd_same, fun J S => ?_⟩
    refine for_sk S (fun i σ H' => ∃ (fl : List Str) (b : Option V), σ = [some (.ref a), some (.str n), some (.int ((FM.pl rs n : Nat) : Int)), some (.ref f), b] ∧ Ex H H' ∧ H' c = some (.lst (xs.drop (FM.pl rs n + 1))) ∧ H' f = some (.lst (sVs (n :: fl))) ∧ fl.length ≤ i ∧
        fl ++ FM.names (((rs.drop (FM.pl rs n + 1)).drop i).takeWhile fun r => decide (rw.l < r.l)) = FM.names (FM.bel rs n)) ?_ ?_ ?_ ?_
    · refine ⟨[], none, rfl, e2.trans e23, upd_same, ?_, Nat.le_refl _, ?_⟩
      · rw [upd_ne (Ne.symm hcf)]; exact hf2
      · unfold FM.bel; rw [el]; rfl
    · rintro i σ H' ⟨fl, b, rfl, _, h2, _⟩
      exact Sk.l h2
    · rintro i x σ H' hx ⟨fl, b, rfl, e3, h2, h3, h4, h5⟩
      obtain ⟨r', hr', q', rfl, hq'⟩ := hRv.get hx
      rw [drop_at hr', List.takeWhile_cons] at h5
      have hi : i < (rs.drop (FM.pl rs n + 1)).length := (List.getElem?_eq_some_iff.mp hr').1
      refine ⟨_, rfl, q', _, _, _, rfl, rfl, SqT.of (e3 _ _ hq'), atI_nat (j := 2) rfl, _, rfl, _, rfl, a, _, _, _, rfl, rfl, SqL.of (e3 _ _ ha), atI_nat hv, qq, _, _, _, rfl, rfl, SqT.of (e3 _ _ hq), atI_nat (j := 2) rfl, _, _, rfl, rfl, _, rfl, ?_⟩
      by_cases hl : r'.l ≤ rw.l
      · rw [if_neg (by rw [decide_eq_false (by omega : ¬ rw.l < r'.l)]; exact Bool.false_ne_true)] at h5
        have h5 : fl ++ [] = FM.names (FM.bel rs n) := h5
        rw [List.append_nil] at h5
        subst h5
        exact iteD hl ⟨_, rfl, q f H' hfn e3 h3⟩
      · rw [if_pos (decide_eq_true (by omega : rw.l < r'.l))] at h5
        refine iteDn hl ⟨_, rfl, .inl ⟨rfl, _, SqL.of h3⟩, _, rfl, q', _, _, _, rfl, rfl, SqT.of (e3 _ _ hq'), atI_nat (j := 0) rfl, f, _, _, rfl, rfl, h3, szLt (by rw [sVs_len, List.length_cons]; omega), ?_⟩
        refine ⟨fl ++ [r'.n], _, rfl, e3.mut hfn, ?_, ?_, ?_, ?_⟩
        · rw [upd_ne (fun z => hcf z)]; exact h2
        · rw [upd_same, ← List.cons_append, sVs_snoc]
        · rw [List.length_append]; exact Nat.succ_le_succ h4
        · rw [List.append_assoc]; exact h5
    · rintro σ H' ⟨fl, b, rfl, e3, h2, h3, h4, h5⟩
      rw [hL, List.drop_length] at h5
      have h5 : fl ++ [] = FM.names (FM.bel rs n) := h5
      rw [List.append_nil] at h5
      subst h5
      exact ⟨_, rfl, q f H' hfn e3 h3⟩
end
end K13
end
section
set_option Elab.async false
set_option linter.all false
set_option maxRecDepth 100000
set_option maxHeartbeats 4000000
namespace K13
open PySem PySem.Spec PyProof.Rows L2
open Evl (Ex)
theorem filt_snocL {f : R → Bool} {rs : FM.Rows Str} {i : Nat} {r : R} (h : rs[i]? = some r) : ((rs.take (i + 1)).filter f).map (·.l) = ((rs.take i).filter f).map (·.l) ++ (if f r = true then [r.l] else []) := by
  rw [take_snoc h, List.filter_append, List.map_append]
  congr 1
  by_cases hf : f r = true
  · rw [if_pos hf]; simp [hf]
  · rw [if_neg hf]; simp [hf]
theorem filt_len {f : R → Bool} {rs : FM.Rows Str} {i : Nat} (h : rs.length ≤ 60) : ((rs.take i).filter f).length ≤ 60 :=
  Nat.le_trans (List.length_filter_le _ _) (by rw [List.length_take]; exact Nat.le_trans (Nat.min_le_right _ _) h)
section
variable {P : Program} {w : World} {K : PySem.W.Frag} {mg : Str → Option Value} {base : Heap}
theorem ok_lkids (T : Tx K mg) : GFn P w K mg base "_law_children" CX0 2 ["_law_rows_here", "_law_parent"] spLKids := by
  obtain ⟨fd, F⟩ := T.d_law_children
  refine gfn T.g_law_children F (F.bindsN fun _ _ _ _ _ _ us hl => match us, hl with | [_, _], _ => rfl) (ok0 F sc_law_children (fun vs H Q E h => ?_) fun cdv A outer s H vs Q E hr h => ?_)
  · obtain ⟨a, xs, rs, po, rfl, _⟩ := h; rfl
  · obtain ⟨a, xs, rs, po, rfl, ha, hR, ok, hpo, q⟩ := h
    refine ⟨_, pss_cons (ps_if (pt_cmpR op_isN (pv 1) pe_non (nomark _)) (pss_one (ps_ret (pe_lc (own := [("_law_row", 4)]) (g := gName 4) (tt := tTest (tOp rEq (tOp (rIxT K) (tVar 4) (tC (.int 2))) (tC (.int 0)))) rfl sc_law_children.nd (pi_seqA (pv 0)) (blkOk_by (N := N_law_children) (sc := defScope st_law_children) (by decide +kernel)) (fun _ _ _ _ _ => pg_name (i := 4) sc_law_children.nd rfl (.inl rfl))
        (fun _ _ _ _ _ => pts_one (pt_cmpR (r := rEq) op_eq (pe_ix (r := rIxT K) ix_tup (pv 4) pe_int (fun _ _ => rfl)) pe_int (nomark _))) (fun _ _ _ _ _ => pe_ix (r := rIxT K) ix_tup (pv 4) pe_int (fun _ _ => rfl))))) pss_nil)
      (Evl.pss_cut (ps_set (i := 2) sc_law_children.nd rfl (.inr rfl) (pe_ix ix_list (pe_lc (own := [("_law_row", 4)]) (g := gName 4) (tt := tTest (tOp rEq (tOp (rIxT K) (tVar 4) (tC (.int 0))) (tVar 1))) rfl sc_law_children.nd (pi_seqA (pv 0)) (blkOk_by (N := N_law_children) (sc := defScope st_law_children) (by decide +kernel)) (fun _ _ _ _ _ => pg_name (i := 4) sc_law_children.nd rfl (.inl rfl))
        (fun _ _ _ _ _ => pts_one (pt_cmpR (r := rEq) op_eq (pe_ix (r := rIxT K) ix_tup (pv 4) pe_int (fun _ _ => rfl)) (pv 1) (nomark _))) (fun _ _ _ _ _ => pe_ix (r := rIxT K) ix_tup (pv 4) pe_int (fun _ _ => rfl))) pe_int (fun _ _ => rfl)))
      (pss_cons (ps_set (i := 3) sc_law_children.nd rfl (.inr rfl) (pe_g (ok_lsub T) hr pass0 (pa_cons (pv 0) (pa_cons (pv 1) pa_nil))))
      (pss_one (ps_ret (pe_lc (own := [("_law_row", 4)]) (g := gName 4) (tt := tAnd (tTest (tOp (rIn K false) (tOp (rIxT K) (tVar 4) (tC (.int 0))) (tVar 3))) (tTest (tOp rEq (tOp (rIxT K) (tVar 4) (tC (.int 2))) (tOp (rI0 fun i j => .int (i + j)) (tVar 2) (tC (.int 1)))))) rfl sc_law_children.nd (pi_seqA (pv 0)) (blkOk_by (N := N_law_children) (sc := defScope st_law_children) (by decide +kernel)) (fun _ _ _ _ _ => pg_name (i := 4) sc_law_children.nd rfl (.inl rfl))
        (fun _ _ _ _ _ => pts_one (PW.pt (pw_and (pt_cmpR (r := rIn K false) op_in_seq (pe_ix (r := rIxT K) ix_tup (pv 4) pe_int (fun _ _ => rfl)) (pv 3) (by rfl)) (pw_and1 (pt_cmpR (r := rEq) op_eq (pe_ix (r := rIxT K) ix_tup (pv 4) pe_int (fun _ _ => rfl)) (pe_op op_add (pv 2) pe_int) (nomark _)))))) (fun _ _ _ _ _ => pe_ix (r := rIxT K) ix_tup (pv 4) pe_int (fun _ _ => rfl))))))), ?_⟩
    have hlen := hR.len
    have h60 := ok.len
    refine ⟨_, rfl, rfl, _, rfl, ?_⟩
    cases po with
    | none =>
      refine iteT ⟨_, rfl, a, true, xs, rfl, Sk.l ha, fun J S D hD => ?_⟩
      refine lc_by xs.length (fun i H' => Ex H H' ∧ H' D = some (.lst (sVs (FM.names ((rs.take i).filter fun r => decide (r.l = 0)))))) ⟨Ex.new hD, upd_same⟩ (fun i H' hi hP => S.go i H' (Sk.l (hP.1 _ _ ha)) hi) (fun H' hP => S.stop H' (Sk.l (hP.1 _ _ ha))) (fun i x H' H'' hi hP hy => ?_) fun H' hP => ?_
      · obtain ⟨e0, hx⟩ := S.yld i H' x H'' (Sk.l (hP.1 _ _ ha)) hy
        subst e0
        obtain ⟨r', hr', q', rfl, hq'⟩ := hR.get hx
        refine ⟨rfl, _, rfl, q', _, _, _, rfl, rfl, SqT.of (hP.1 _ _ hq'), atI_nat (j := 2) rfl, rfl, _, rfl, ?_⟩
        by_cases h0 : r'.l = 0
        · refine iteD (congrArg V.int h0) ⟨_, rfl, q', _, _, _, rfl, rfl, SqT.of (hP.1 _ _ hq'), atI_nat (j := 0) rfl, _, hP.2, szLt (by rw [sVs_len, names_len]; exact Nat.lt_of_le_of_lt (filt_len h60) (by decide)), hP.1.mut hD, ?_⟩
          rw [upd_same, filt_snoc hr', if_pos (decide_eq_true h0), sVs_snoc]
        · refine iteDn (fun z => h0 (V.int.inj z)) ⟨hP.1, ?_⟩
          rw [hP.2, filt_snoc hr', if_neg (by rw [decide_eq_false h0]; exact Bool.false_ne_true), List.append_nil]
      · have hD2 := hP.2
        rw [hlen, List.take_length] at hD2
        exact q D H' hD hP.1 hD2
    | some p =>
      have hp := hpo p rfl
      refine iteF ?_
      refine ⟨fun σ H' => σ = [some (.ref a), some (.str p), some (.int (FM.lv rs p)), none, none] ∧ Ex H H', ?_, ?_⟩
      · refine ⟨_, rfl, a, true, xs, rfl, Sk.l ha, fun J S D hD => ?_⟩
        refine lc_by xs.length (fun i H' => Ex H H' ∧ H' D = some (.lst (iVs (((rs.take i).filter fun r => decide (r.n = p)).map (·.l))))) ⟨Ex.new hD, upd_same⟩ (fun i H' hi hP => S.go i H' (Sk.l (hP.1 _ _ ha)) hi) (fun H' hP => S.stop H' (Sk.l (hP.1 _ _ ha))) (fun i x H' H'' hi hP hy => ?_) fun H' hP => ?_
        · obtain ⟨e0, hx⟩ := S.yld i H' x H'' (Sk.l (hP.1 _ _ ha)) hy
          subst e0
          obtain ⟨r', hr', q', rfl, hq'⟩ := hR.get hx
          refine ⟨rfl, _, rfl, q', _, _, _, rfl, rfl, SqT.of (hP.1 _ _ hq'), atI_nat (j := 0) rfl, _, rfl, rfl, _, rfl, ?_⟩
          by_cases h0 : r'.n = p
          · refine iteD (congrArg V.str h0) ⟨_, rfl, q', _, _, _, rfl, rfl, SqT.of (hP.1 _ _ hq'), atI_nat (j := 2) rfl, _, hP.2, szLt (by rw [iVs_len, List.length_map]; exact Nat.lt_of_le_of_lt (filt_len h60) (by decide)), hP.1.mut hD, ?_⟩
            rw [upd_same, filt_snocL hr', if_pos (decide_eq_true h0), iVs_snoc]
          · refine iteDn (fun z => h0 (V.str.inj z)) ⟨hP.1, ?_⟩
            rw [hP.2, filt_snocL hr', if_neg (by rw [decide_eq_false h0]; exact Bool.false_ne_true), List.append_nil]
        · have hD2 := hP.2
          rw [hlen, List.take_length, one_filter ok hp] at hD2
          exact ⟨D, _, _, _, rfl, rfl, SqL.of hD2, atI_nat (j := 0) rfl, rfl, hP.1⟩
      rintro σ H1 ⟨rfl, e1⟩
      refine ⟨_, rfl, _, rfl, a, xs, rs, p, rfl, e1 _ _ ha, hR.mono e1, ok, hp, fun l H2 hl e12 h2 => ?_⟩
      have e2 := e1.trans e12
      refine ⟨_, rfl, a, true, xs, rfl, Sk.l (e2 _ _ ha), fun J S D hD => ?_⟩
      refine lc_by xs.length (fun i H' => Ex H2 H' ∧ H' D = some (.lst (sVs (FM.names ((rs.take i).filter fun r => decide (r.n ∈ p :: FM.names (FM.bel rs p)) && decide (r.l = FM.lv rs p + 1)))))) ⟨Ex.new hD, upd_same⟩ (fun i H' hi hP => S.go i H' (Sk.l ((e2.trans hP.1) _ _ ha)) hi) (fun H' hP => S.stop H' (Sk.l ((e2.trans hP.1) _ _ ha))) (fun i x H' H'' hi hP hy => ?_) fun H' hP => ?_
      · obtain ⟨e0, hx⟩ := S.yld i H' x H'' (Sk.l ((e2.trans hP.1) _ _ ha)) hy
        subst e0
        obtain ⟨r', hr', q', rfl, hq'⟩ := hR.get hx
        have hq5 := (e2.trans hP.1) _ _ hq'
        refine ⟨rfl, _, rfl, q', _, _, _, rfl, rfl, SqT.of hq5, atI_nat (j := 0) rfl, _, rfl, l, _, rfl, .inl (SqL.of (hP.1 _ _ h2)), rfl, flat_strs, _, rfl, iteB inV_strs ?_⟩
        by_cases hm : r'.n ∈ p :: FM.names (FM.bel rs p)
        · refine iteD hm ⟨_, rfl, q', _, _, _, rfl, rfl, SqT.of hq5, atI_nat (j := 2) rfl, _, rfl, _, _, rfl, rfl, rfl, _, rfl, ?_⟩
          by_cases h0 : r'.l = FM.lv rs p + 1
          · refine iteD (congrArg V.int h0) ⟨_, rfl, q', _, _, _, rfl, rfl, SqT.of hq5, atI_nat (j := 0) rfl, _, hP.2, szLt (by rw [sVs_len, names_len]; exact Nat.lt_of_le_of_lt (filt_len h60) (by decide)), hP.1.mut hD, ?_⟩
            rw [upd_same, filt_snoc hr', if_pos (by rw [decide_eq_true hm, decide_eq_true h0]; rfl), sVs_snoc]
          · refine iteDn (fun z => h0 (V.int.inj z)) ⟨hP.1, ?_⟩
            rw [hP.2, filt_snoc hr', if_neg (by rw [decide_eq_false h0, Bool.and_false]; exact Bool.false_ne_true), List.append_nil]
        · refine iteDn hm ⟨hP.1, ?_⟩
          rw [hP.2, filt_snoc hr', if_neg (by rw [decide_eq_false hm]; exact Bool.false_ne_true), List.append_nil]
      · have hD2 := hP.2
        rw [hlen, List.take_length, kids_filter ok hp] at hD2
        exact q D H' (Evl.fresh_back e2 hD) (e2.trans hP.1) hD2
end
end K13
end
section
set_option Elab.async false
set_option linter.all false
set_option maxRecDepth 100000
set_option maxHeartbeats 4000000
namespace K13
open PySem PySem.Spec PyProof.Rows L2
open Evl (Ex)
def spDrawn (K : PySem.W.Frag) : Sp := fun vs H Q _ => ∃ (W a : Addr) (xs : List V) (rs : FM.Rows Str) (c : Nat), vs = [.ref W, .ref a] ∧ WellAt H W c ∧ c ≤ 60000 ∧ del H W a = some (.lst xs) ∧ RowsAt (del H W) xs rs ∧ Okf rs ∧ rs ≠ [] ∧
  Wn W (c + 1000) H (fun v H' => ∃ t fa D, v = .ref t ∧ H' t = some (.tup [.int ((kindN (encD D) : Nat) : Int), .ref fa]) ∧ del H' W fa = some (.lst (encD D).args) ∧ FM.okD nmOk vvOk rs D) Q
/-- None or a node, drawn from a list -/
theorem opt_mem {l : List Str} {v : V} (h : v ∈ V.non :: sVs l) : ∃ po, v = optV po ∧ ∀ m, po = some m → m ∈ l := by
  rcases List.mem_cons.mp h with rfl | h
  · exact ⟨none, rfl, fun m hm => by cases hm⟩
  · obtain ⟨m, hm, rfl⟩ := List.mem_map.mp h
    exact ⟨some m, rfl, fun k hk => by cases hk; exact hm⟩
theorem kidsAll {l : List Str} {n : Str} {k : Nat} (h : k ≠ 1) : l.filter (fun m => decide (k ≠ 1) || decide (m ≠ n)) = l := List.filter_eq_self.mpr fun m _ => by rw [decide_eq_true h]; rfl
theorem kidsOne {l : List Str} {n : Str} {k : Nat} (h : k = 1) : l.filter (fun m => decide (k ≠ 1) || decide (m ≠ n)) = l.filter (fun m => decide (m ≠ n)) := List.filter_congr fun m _ => by rw [decide_eq_false (fun z => z h)]; rfl
section
variable {P : Program} {w : World} {K : PySem.W.Frag} {mg : Str → Option Value} {base : Heap}
theorem ok_drawn (T : Tx K mg) : GFn P w K mg base "_law_drawn" CX0 5 ["_law_well_here", "_law_rows_here"] (spDrawn K) := by
  obtain ⟨fd, F⟩ := T.d_law_drawn
  refine gfn T.g_law_drawn F (F.bindsN fun _ _ _ _ _ _ us hl => match us, hl with | [_, _], _ => rfl) (ok0 F sc_law_drawn (fun vs H Q E h => ?_) fun cdv A outer s H vs Q E hr h => ?_)
  · obtain ⟨W, a, xs, rs, c, rfl, _⟩ := h; rfl
  · obtain ⟨W, a, xs, rs, c, rfl, hW, hc, ha, hR, ok, hne, q⟩ := h
    have nd := sc_law_drawn.nd
    refine ⟨_, Evl.pss_cut (ps_asg (pe_tup (pa_cons (pe_lc (own := [("_law_row", 10)]) (g := gName 10) (tt := tYes) rfl nd (pi_seqA (pv 1)) (blkOk_by (N := N_law_drawn) (sc := defScope st_law_drawn) (by decide +kernel)) (fun _ _ _ _ _ => pg_name (i := 10) nd rfl (.inl rfl)) (fun _ _ _ _ _ => pts_nil) (fun _ _ _ _ _ => pe_ix (r := rIxT K) ix_tup (pv 10) pe_int (fun _ _ => rfl)))
          (pa_cons (pe_g (ok_draw T) hr pass0 (pa_cons (pv 0) (pa_cons pe_int pa_nil))) pa_nil))) (pg_tup rfl (pgs_cons (pg_name (i := 2) nd rfl (.inl rfl)) (pgs_cons (pg_name (i := 3) nd rfl (.inr rfl)) pgs_nil))))
      (Evl.pss_cut (ps_set (i := 3) nd rfl (.inr rfl) (pe_ix ix_list (pe_lst (pa_cons (pv 3) (pa_cons (pe_op op_add pe_int (pe_op op_fdiv (pv 3) pe_int)) pa_nil))) (pe_callTy call_int1 rfl T.z_int b_int (pa_cons (pe_and (pe_cmpR op_gt (pe_callB call_len_seq rfl T.z_len b_len (pa_cons (pv 1) pa_nil)) pe_int (nomark _)) (pe_one (pe_cmpR op_in_seq (pv 3) (pe_tup (pa_cons pe_int (pa_cons pe_int pa_nil))) (by rfl)))) pa_nil)) (fun _ _ => rfl)))
      (Evl.pss_cut (ps_asg (pe_tup (pa_cons (pe_g (ok_one T) hr pass0 (pa_cons (pv 0) (pa_cons (pv 2) pa_nil))) (pa_cons (pe_g (ok_one T) hr pass0 (pa_cons (pv 0) (pa_cons (pe_op op_cat (pe_lst (pa_cons pe_non pa_nil)) (pv 2)) pa_nil))) pa_nil))) (pg_tup rfl (pgs_cons (pg_name (i := 4) nd rfl (.inr rfl)) (pgs_cons (pg_name (i := 5) nd rfl (.inl rfl)) pgs_nil))))
      (Evl.pss_cut (ps_if (pt_cmpR op_eq (pv 3) pe_int (nomark _)) (pss_cons (ps_set (i := 6) nd rfl (.inr rfl) (pe_g (ok_lsub T) hr pass0 (pa_cons (pv 1) (pa_cons (pv 4) pa_nil))))
          (pss_one (ps_set (i := 5) nd rfl (.inl rfl) (pe_g (ok_one T) hr pass0 (pa_cons (pv 0) (pa_cons (pe_op op_cat (pe_lst (pa_cons pe_non pa_nil)) (pe_lc (own := [("_law_one_here", 11)]) (g := gName 11) (tt := tTest (tOp (rIn K true) (tVar 11) (tVar 6))) rfl nd (pi_seqA (pv 2)) (blkOk_by (N := N_law_drawn) (sc := defScope st_law_drawn) (by decide +kernel)) (fun _ _ _ _ _ => pg_name (i := 11) nd rfl (.inl rfl))
            (fun _ _ _ _ _ => pts_one (pt_cmpR (r := rIn K true) op_notIn_seq (pv 11) (pv 6) (by rfl))) (fun _ _ _ _ _ => pv 11))) pa_nil)))))) pss_nil)
      (Evl.pss_cut (ps_setLc (i := 7) (own := [("_law_one_here", 11)]) (g := gName 11) (tt := tOr (tTest (tOp rNe (tVar 3) (tC (.int 1)))) (tTest (tOp rNe (tVar 11) (tVar 4)))) rfl nd rfl rfl (sw_true rfl rfl rfl (by decide +kernel)) (pi_seqA (pe_g (ok_lkids T) hr pass0 (pa_cons (pv 1) (pa_cons (pv 5) pa_nil)))) (blkOk_by (N := N_law_drawn) (sc := defScope st_law_drawn) (by decide +kernel)) (fun _ _ _ _ _ => pg_name (i := 11) nd rfl (.inl rfl))
          (fun _ _ _ _ _ => pts_one (PW.pt (pw_or (pt_cmpR (r := rNe) op_ne (pv 3) pe_int (nomark _)) (pw_or1 (pt_cmpR (r := rNe) op_ne (pv 11) (pv 4) (nomark _)))))) (fun _ _ _ _ _ => pv 11))
      (Evl.pss_cut (ps_if (PW.pt (pw_and (pt_cmpR op_eq (pv 3) pe_int (nomark _)) (pw_and1 (pt_cmpR (op_eqD hr.units) (pv 7) (pe_lst pa_nil) (nomark _))))) (pss_one (ps_set (i := 3) nd rfl (.inr rfl) pe_int)) pss_nil)
      (pss_cons (ps_if (pt_cmpR op_eq (pv 3) pe_int (nomark _)) (pss_one (ps_ret (pe_tup (pa_cons pe_int (pa_cons (pe_lst (pa_cons (pe_g (ok_lnew T) hr pass0 (pa_cons (pv 0) (pa_cons (pv 2) pa_nil))) (pa_cons (pe_g (ok_lvalue T) hr pass0 (pa_cons (pv 0) pa_nil)) (pa_cons (pv 5) (pa_cons (pe_g (ok_draw T) hr pass0 (pa_cons (pv 0) (pa_cons (pe_op op_add (pe_callB call_len_seq rfl T.z_len b_len (pa_cons (pv 7) pa_nil)) pe_int) pa_nil))) pa_nil))))) pa_nil))))) pss_nil)
      (pss_cons (ps_if (pt_cmpR op_eq (pv 3) pe_int (nomark _)) (pss_one (ps_ret (pe_tup (pa_cons pe_int (pa_cons (pe_lst (pa_cons (pv 4) (pa_cons (pv 5) (pa_cons (pe_g (ok_draw T) hr pass0 (pa_cons (pv 0) (pa_cons (pe_op op_add (pe_callB call_len_seq rfl T.z_len b_len (pa_cons (pv 7) pa_nil)) pe_int) pa_nil))) pa_nil)))) pa_nil))))) pss_nil)
      (pss_cons (ps_if (pt_cmpR op_eq (pv 3) pe_int (nomark _))
          (pss_cons (ps_set (i := 8) nd rfl (.inl rfl) (pe_g (ok_draw T) hr pass0 (pa_cons (pv 0) (pa_cons (pe_callB call_len_seq rfl T.z_len b_len (pa_cons (pv 7) pa_nil)) pa_nil))))
          (pss_cons (ps_set (i := 9) nd rfl (.inl rfl) (pe_op op_add (pe_op op_add (pv 8) pe_int) (pe_g (ok_draw T) hr pass0 (pa_cons (pv 0) (pa_cons (pe_op op_sub (pe_callB call_len_seq rfl T.z_len b_len (pa_cons (pv 7) pa_nil)) (pv 8)) pa_nil)))))
          (pss_one (ps_ret (pe_tup (pa_cons pe_int (pa_cons (pe_lst (pa_cons (pe_g (ok_lnew T) hr pass0 (pa_cons (pv 0) (pa_cons (pv 2) pa_nil))) (pa_cons (pe_g (ok_lvalue T) hr pass0 (pa_cons (pv 0) pa_nil)) (pa_cons (pv 5) (pa_cons (pv 8) (pa_cons (pv 9) pa_nil)))))) pa_nil))))))) pss_nil)
      (pss_cons (ps_if (pt_cmpR op_eq (pv 3) pe_int (nomark _)) (pss_one (ps_ret (pe_tup (pa_cons pe_int (pa_cons (pe_lst (pa_cons (pv 5) pa_nil)) pa_nil))))) pss_nil)
      (pss_one (ps_ret (pe_tup (pa_cons (pv 3) (pa_cons (pe_ifExp (pt_cmpR op_eq (pv 3) pe_int (nomark _)) (pe_lst (pa_cons (pv 4) (pa_cons (pe_g (ok_lvalue T) hr pass0 (pa_cons (pv 0) pa_nil)) pa_nil))) (pe_lst (pa_cons (pv 4) pa_nil))) pa_nil)))))))))))))), ?_⟩
    have hlen := hR.len
    have h60 := ok.len
    have h0 : 0 < rs.length := List.length_pos_iff.mpr hne
    obtain ⟨ha0, haW⟩ := del_of ha
    have hR0 : RowsAt H xs rs := hR.mono ex_del
    let S : Addr → Option V → Option V → Option V → Option V → Option V → L2.St := fun ln k n po v6 v7 => [some (.ref W), some (.ref a), some (.ref ln), k, n, po, v6, v7, none, none, none, none]
    -- the names and the kind
    refine ⟨fun σ H' => ∃ ln k, k < 7 ∧ σ = S ln (some (.int ((k : Nat) : Int))) none none none none ∧ Wx W H H' ∧ WellAt H' W (c + 1) ∧ del H' W ln = some (.lst (sVs (FM.names rs))), ?_, ?_⟩
    · refine ⟨_, rfl, a, true, xs, rfl, Sk.l ha0, fun J S' D hD => ?_⟩
      have hDW := hW.np hD
      refine lc_by xs.length (fun i H' => Ex H H' ∧ H' D = some (.lst (sVs ((FM.names rs).take i)))) ⟨Ex.new hD, upd_same⟩ (fun i H' hi hP => S'.go i H' (Sk.l (hP.1 _ _ ha0)) hi) (fun H' hP => S'.stop H' (Sk.l (hP.1 _ _ ha0))) (fun i x H' H'' hi hP hy => ?_) fun H' hP => ?_
      · obtain ⟨e0, hx⟩ := S'.yld i H' x H'' (Sk.l (hP.1 _ _ ha0)) hy
        subst e0
        obtain ⟨r', hr', q', rfl, hq'⟩ := hR0.get hx
        refine ⟨rfl, _, rfl, q', _, _, _, rfl, rfl, SqT.of (hP.1 _ _ hq'), atI_nat (j := 0) rfl, _, hP.2, szLt (by rw [sVs_len, List.length_take, names_len]; omega), hP.1.mut hD, ?_⟩
        rw [upd_same, take_snoc (names_get hr'), sVs_snoc]
      · have hD' := hP.2
        rw [hlen, ← names_len, List.take_length] at hD'
        refine ⟨_, rfl, W, 7, c, rfl, hW.mono hP.1, by omega, by decide, by decide, fun v H2 e2 hW2 hv => ?_⟩
        obtain ⟨k, rfl, hk⟩ := hv
        refine ⟨(by show 2 ≤ sizeLine; decide), fun t ht => ⟨t, _, rfl, SqT.of upd_same, rfl, _, _, rfl, _, _, rfl, rfl, D, k, hk, rfl, ((Wx.of (W := W) hP.1).trans e2).trans (Wx.of (Ex.new ht)), hW2.new ht, Wx.of (W := W) (Ex.new ht) _ _ (e2 _ _ (del_in hD' hDW))⟩⟩
    rintro σ H1 ⟨ln, k0, hk0, rfl, e1, hW1, hln1⟩
    -- the kind, where the forest is full
    refine ⟨fun σ H' => ∃ k, k < 7 ∧ (60 ≤ rs.length → k ≠ 0 ∧ k ≠ 4) ∧ σ = S ln (some (.int ((k : Nat) : Int))) none none none none ∧ Wx W H H' ∧ WellAt H' W (c + 1) ∧ del H' W ln = some (.lst (sVs (FM.names rs))), ?_, ?_⟩
    · have hdiv : ((k0 : Nat) : Int) / 4 = ((k0 / 4 : Nat) : Int) := rfl
      refine ⟨_, rfl, _, rfl, _, _, rfl, rfl, ⟨by decide, by decide⟩, _, _, rfl, rfl, (by show 2 ≤ sizeLine; decide), fun l hl => ?_⟩
      have e12 := Ex.new (o := .lst [.int ((k0 : Nat) : Int), .int (1 + ((k0 : Nat) : Int) / 4)]) hl
      have h2 : upd H1 l (.lst [.int ((k0 : Nat) : Int), .int (1 + ((k0 : Nat) : Int) / 4)]) l = some (.lst [.int ((k0 : Nat) : Int), .int (1 + ((k0 : Nat) : Int) / 4)]) := upd_same
      have e2 := e1.trans (Wx.of (W := W) e12)
      have hW2 := hW1.mono e12
      have hln2 := Wx.of (W := W) e12 _ _ hln1
      generalize upd H1 l (.lst [.int ((k0 : Nat) : Int), .int (1 + ((k0 : Nat) : Int) / 4)]) = H2 at e12 h2 e2 hW2 hln2
      refine ⟨_, rfl, a, xs, rfl, .inl (SqL.of (del_of (e2 _ _ ha)).1), _, _, rfl, rfl, _, rfl, ?_⟩
      by_cases hfull : (59 : Int) < ((xs.length : Nat) : Int)
      · refine iteD hfull ⟨_, rfl, (by show 2 ≤ sizeLine; decide), fun t ht => ?_⟩
        have e23 := Ex.new (o := .tup [.int 0, .int 4]) ht
        refine ⟨t, _, rfl, .inr (SqT.of upd_same), rfl, rfl, .inr ⟨_, rfl, ?_⟩⟩
        have fin : ∀ k : Nat, k < 7 → (60 ≤ rs.length → k ≠ 0 ∧ k ≠ 4) → ∃ k', k' < 7 ∧ (60 ≤ rs.length → k' ≠ 0 ∧ k' ≠ 4) ∧ (S ln (some (.int ((k0 : Nat) : Int))) none none none none).set 3 (some (.int ((k : Nat) : Int))) = S ln (some (.int ((k' : Nat) : Int))) none none none none ∧ Wx W H (upd H2 t (.tup [.int 0, .int 4])) ∧ WellAt (upd H2 t (.tup [.int 0, .int 4])) W (c + 1) ∧ del (upd H2 t (.tup [.int 0, .int 4])) W ln = some (.lst (sVs (FM.names rs))) := fun k hk1 hk2 =>
          ⟨k, hk1, hk2, rfl, e2.trans (Wx.of e23), hW2.mono e23, Wx.of (W := W) e23 _ _ hln2⟩
        have hcase : inV (.int ((k0 : Nat) : Int)) [.int 0, .int 4] = decide (k0 = 0 ∨ k0 = 4) := by
          have e : inV (.int ((k0 : Nat) : Int)) [.int 0, .int 4] = (((0 : Int) == ((k0 : Nat) : Int)) || (((4 : Int) == ((k0 : Nat) : Int)) || false)) := rfl
          rw [e]
          by_cases h1 : k0 = 0
          · subst h1; rfl
          · by_cases h2 : k0 = 4
            · subst h2; rfl
            · rw [decide_eq_false (by omega), beq_eq_false_iff_ne.mpr (by omega : (0 : Int) ≠ ((k0 : Nat) : Int)), beq_eq_false_iff_ne.mpr (by omega : (4 : Int) ≠ ((k0 : Nat) : Int))]; rfl
        show rIxL K (.ref l) (.int (if inV (.int ((k0 : Nat) : Int)) [.int 0, .int 4] = true then 1 else 0)) (upd H2 t (.tup [.int 0, .int 4])) _
        rw [hcase]
        by_cases hz : k0 = 0 ∨ k0 = 4
        · rw [decide_eq_true hz]
          have e4 : (1 : Int) + ((k0 : Nat) : Int) / 4 = ((1 + k0 / 4 : Nat) : Int) := by omega
          refine ⟨l, _, 1, _, rfl, rfl, SqL.of (e23 _ _ h2), atI_nat (j := 1) rfl, ?_⟩
          rw [e4]
          exact fin (1 + k0 / 4) (by omega) (fun _ => by omega)
        · rw [decide_eq_false hz]
          exact ⟨l, _, 0, _, rfl, rfl, SqL.of (e23 _ _ h2), atI_nat (j := 0) rfl, fin k0 hk0 (fun _ => by omega)⟩
      · refine iteDn hfull (.inr ⟨_, rfl, l, _, 0, _, rfl, rfl, SqL.of h2, atI_nat (j := 0) rfl, ?_⟩)
        exact ⟨k0, hk0, fun h => by omega, rfl, e2, hW2, hln2⟩
    rintro σ H2 ⟨k, hk, hkf, rfl, e2, hW2, hln2⟩
    have hnl : (sVs (FM.names rs)).length = rs.length := by rw [sVs_len, names_len]
    have hnn : sVs (FM.names rs) ≠ [] := fun z => by rw [z] at hnl; simp at hnl; omega
    -- the name and the parent
    refine ⟨fun σ H' => ∃ n po, n ∈ FM.names rs ∧ FM.parOk rs po ∧ σ = S ln (some (.int ((k : Nat) : Int))) (some (.str n)) (some (optV po)) none none ∧ Wx W H H' ∧ WellAt H' W (c + 3) ∧ del H' W ln = some (.lst (sVs (FM.names rs))), ?_, ?_⟩
    · refine ⟨_, rfl, _, rfl, W, c + 1, _, rfl, hW2, by omega, .inl ⟨ln, _, rfl, hln2, hnn, by omega, fun v H3 e23 hW3 hv => ?_⟩⟩
      obtain ⟨n, hn, rfl⟩ := List.mem_map.mp hv
      refine ⟨_, rfl, (by show 1 ≤ sizeLine; decide), fun l1 hl1 => ⟨_, rfl, ?_⟩⟩
      have e34 := Ex.new (o := .lst [.non]) hl1
      refine cat_l upd_same (del_of (Wx.of (W := W) e34 _ _ (e23 _ _ hln2))).1 (by show 1 + _ ≤ _; omega) fun l2 hl2 => ?_
      have e45 := Ex.new (o := .lst ([.non] ++ sVs (FM.names rs))) hl2
      have hW5 := (hW3.mono e34).mono e45
      have hl2W := (hW3.mono e34).np hl2
      refine ⟨W, c + 2, _, rfl, hW5, by omega, .inl ⟨l2, _, rfl, del_in upd_same hl2W, (by intro z; cases z), by rw [List.length_append]; show 1 + _ ≤ 1000; omega, fun v H6 e56 hW6 hv => ?_⟩⟩
      obtain ⟨po, rfl, hpo⟩ := opt_mem hv
      have e36 := ((Wx.of (W := W) e34).trans (Wx.of e45)).trans e56
      refine ⟨(by show 2 ≤ sizeLine; decide), fun t ht => ⟨t, _, rfl, SqT.of upd_same, rfl, _, _, rfl, _, _, rfl, rfl, n, po, hn, hpo, rfl, ((e2.trans e23).trans e36).trans (Wx.of (Ex.new ht)), hW6.new ht, Wx.of (W := W) (Ex.new ht) _ _ (e36 _ _ (e23 _ _ hln2))⟩⟩
    rintro σ H3 ⟨n, po0, hn, hpo0, rfl, e3, hW3, hln3⟩
    -- another parent for a move
    refine ⟨fun σ H' => ∃ po v6, FM.parOk rs po ∧ (k = 1 → ∀ m, po = some m → m ≠ n ∧ m ∉ FM.names (FM.bel rs n)) ∧ σ = S ln (some (.int ((k : Nat) : Int))) (some (.str n)) (some (optV po)) v6 none ∧ Wx W H H' ∧ WellAt H' W (c + 4) ∧ del H' W ln = some (.lst (sVs (FM.names rs))), ?_, ?_⟩
    · refine ⟨_, rfl, rfl, _, rfl, ?_⟩
      by_cases hk1 : V.int ((k : Nat) : Int) = .int 1
      · refine iteD hk1 ⟨_, rfl, _, rfl, a, xs, rs, n, rfl, (del_of (e3 _ _ ha)).1, (hR.mono e3).mono ex_del, ok, hn, fun l1 H4 hl1 e34 h4 => ?_⟩
        have hl1W := hW3.np hl1
        have e4 := e3.trans (Wx.of (W := W) e34)
        have hW4 := hW3.mono e34
        have hln4 := Wx.of (W := W) e34 _ _ hln3
        refine ⟨_, rfl, (by show 1 ≤ sizeLine; decide), fun l2 hl2 => ?_⟩
        have e45 := Ex.new (o := .lst [.non]) hl2
        have h5 : upd H4 l2 (.lst [.non]) l2 = some (.lst [.non]) := upd_same
        have hW5 := hW4.mono e45
        have hln5 := Wx.of (W := W) e45 _ _ hln4
        have e5 := e4.trans (Wx.of (W := W) e45)
        have h45 := e45 _ _ h4
        generalize upd H4 l2 (.lst [.non]) = H5 at e45 h5 hW5 hln5 e5 h45
        refine ⟨_, rfl, ln, true, _, rfl, Sk.l (del_of hln5).1, fun J S' D hD => ?_⟩
        have hDW := hW5.np hD
        refine lc_by (sVs (FM.names rs)).length (fun i H' => Ex H5 H' ∧ H' D = some (.lst (sVs (((FM.names rs).take i).filter fun m => decide (m ∉ n :: FM.names (FM.bel rs n)))))) ⟨Ex.new hD, upd_same⟩ (fun i H' hi hP => S'.go i H' (Sk.l (hP.1 _ _ (del_of hln5).1)) hi) (fun H' hP => S'.stop H' (Sk.l (hP.1 _ _ (del_of hln5).1))) (fun i x H' H'' hi hP hy => ?_) fun H' hP => ?_
        · obtain ⟨e0, hx⟩ := S'.yld i H' x H'' (Sk.l (hP.1 _ _ (del_of hln5).1)) hy
          subst e0
          have hi' : i < (FM.names rs).length := by rw [sVs_len] at hi; exact hi
          have hki : (FM.names rs)[i]? = some (FM.names rs)[i] := List.getElem?_eq_getElem hi'
          generalize (FM.names rs)[i] = m at hki
          have hx' : x = .str m := by
            have : (List.map V.str (FM.names rs))[i]? = some x := hx
            rw [List.getElem?_map, hki] at this
            exact (Option.some.inj this).symm
          subst hx'
          refine ⟨rfl, _, rfl, _, rfl, l1, _, rfl, .inl (SqL.of (hP.1 _ _ h45)), rfl, flat_strs, _, rfl, iteB (congrArg (fun b => !b) inV_strs) ?_⟩
          have fl : (((FM.names rs).take i).filter fun m => decide (m ∉ n :: FM.names (FM.bel rs n))).length ≤ 60 := by
            refine Nat.le_trans (List.length_filter_le _ _) ?_
            rw [List.length_take, names_len]
            omega
          by_cases hm : m ∈ n :: FM.names (FM.bel rs n)
          · refine iteND hm ⟨hP.1, ?_⟩
            rw [hP.2, take_snoc hki, List.filter_append]
            have : [m].filter (fun m => decide (m ∉ n :: FM.names (FM.bel rs n))) = [] := by
              rw [List.filter_cons, if_neg (by rw [decide_eq_false (fun z => z hm)]; exact Bool.false_ne_true)]; rfl
            rw [this, List.append_nil]
          · refine iteNDn hm ⟨_, rfl, _, hP.2, szLt (by rw [sVs_len]; omega), hP.1.mut hD, ?_⟩
            rw [upd_same, take_snoc hki, List.filter_append]
            have : [m].filter (fun m => decide (m ∉ n :: FM.names (FM.bel rs n))) = [m] := by
              rw [List.filter_cons, if_pos (decide_eq_true hm)]; rfl
            rw [this, sVs_snoc]
        · have hD2 := hP.2
          rw [sVs_len, List.take_length] at hD2
          have fl : ((FM.names rs).filter fun m => decide (m ∉ n :: FM.names (FM.bel rs n))).length ≤ 60 := by
            refine Nat.le_trans (List.length_filter_le _ _) ?_
            rw [names_len]
            omega
          refine cat_l (hP.1 _ _ h5) hD2 (by rw [sVs_len]; show 1 + _ ≤ _; omega) fun l3 hl3 => ?_
          have e67 := Ex.new (o := .lst ([.non] ++ sVs ((FM.names rs).filter fun m => decide (m ∉ n :: FM.names (FM.bel rs n))))) hl3
          have hW7 := (hW5.mono hP.1).mono e67
          have hl3W := (hW5.mono hP.1).np hl3
          refine ⟨W, c + 3, _, rfl, hW7, by omega, .inl ⟨l3, _, rfl, del_in upd_same hl3W, (by intro z; cases z), by rw [List.length_append, sVs_len]; show 1 + _ ≤ 1000; omega, fun v H8 e78 hW8 hv => ?_⟩⟩
          obtain ⟨po, rfl, hpo⟩ := opt_mem hv
          have e58 := ((Wx.of (W := W) hP.1).trans (Wx.of e67)).trans e78
          refine ⟨po, _, fun m hm => (List.mem_filter.mp (hpo m hm)).1, fun _ m hm => ?_, rfl, e5.trans e58, hW8, e58 _ _ hln5⟩
          have := of_decide_eq_true (List.mem_filter.mp (hpo m hm)).2
          exact ⟨fun z => this (by rw [z]; exact List.mem_cons_self), fun z => this (List.mem_cons_of_mem _ z)⟩
      · exact iteDn hk1 ⟨po0, none, hpo0, fun z => absurd (by rw [z]; rfl) hk1, rfl, e3, hW3.le (by omega), hln3⟩
    rintro σ H4 ⟨po, v6, hpo, hpm, rfl, e4, hW4, hln4⟩
    have hk60 := kids_len ok po
    generalize hsome : (FM.kidsOf rs po).filter (fun m => decide (k ≠ 1) || decide (m ≠ n)) = som
    have hsl : som.length ≤ 60 := by rw [← hsome]; exact Nat.le_trans (List.length_filter_le _ _) hk60
    -- the children to choose from
    refine ⟨fun σ H' => ∃ ls, σ = S ln (some (.int ((k : Nat) : Int))) (some (.str n)) (some (optV po)) v6 (some (.ref ls)) ∧ Wx W H H' ∧ WellAt H' W (c + 4) ∧ del H' W ln = some (.lst (sVs (FM.names rs))) ∧ del H' W ls = some (.lst (sVs som)), ?_, ?_⟩
    · refine ⟨_, rfl, _, rfl, a, xs, rs, po, rfl, (del_of (e4 _ _ ha)).1, (hR.mono e4).mono ex_del, ok, hpo, fun l1 H5 hl1 e45 h5 => ?_⟩
      have hW5 := hW4.mono e45
      have e5 := e4.trans (Wx.of (W := W) e45)
      have hln5 := Wx.of (W := W) e45 _ _ hln4
      refine ⟨l1, true, _, rfl, Sk.l h5, fun J S' D hD => ?_⟩
      have hDW := hW5.np hD
      refine lc_by (sVs (FM.kidsOf rs po)).length (fun i H' => Ex H5 H' ∧ H' D = some (.lst (sVs (((FM.kidsOf rs po).take i).filter fun m => decide (k ≠ 1) || decide (m ≠ n))))) ⟨Ex.new hD, upd_same⟩ (fun i H' hi hP => S'.go i H' (Sk.l (hP.1 _ _ h5)) hi) (fun H' hP => S'.stop H' (Sk.l (hP.1 _ _ h5))) (fun i x H' H'' hi hP hy => ?_) fun H' hP => ?_
      · obtain ⟨e0, hx⟩ := S'.yld i H' x H'' (Sk.l (hP.1 _ _ h5)) hy
        subst e0
        have hi' : i < (FM.kidsOf rs po).length := by rw [sVs_len] at hi; exact hi
        have hki : (FM.kidsOf rs po)[i]? = some (FM.kidsOf rs po)[i] := List.getElem?_eq_getElem hi'
        generalize (FM.kidsOf rs po)[i] = m at hki
        have hx' : x = .str m := by
          have : (List.map V.str (FM.kidsOf rs po))[i]? = some x := hx
          rw [List.getElem?_map, hki] at this
          exact (Option.some.inj this).symm
        subst hx'
        have fl : (((FM.kidsOf rs po).take i).filter fun m => decide (k ≠ 1) || decide (m ≠ n)).length ≤ 60 := by
          refine Nat.le_trans (List.length_filter_le _ _) ?_
          rw [List.length_take]
          omega
        have keep : (decide (k ≠ 1) || decide (m ≠ n)) = true → ∃ acc, H'' D = some (.lst acc) ∧ acc.length < sizeLine ∧ Ex H5 (upd H'' D (.lst (acc ++ [V.str m]))) ∧ upd H'' D (.lst (acc ++ [V.str m])) D = some (.lst (sVs (((FM.kidsOf rs po).take (i + 1)).filter fun m => decide (k ≠ 1) || decide (m ≠ n)))) := fun hb =>
          ⟨_, hP.2, szLt (by rw [sVs_len]; omega), hP.1.mut hD, by
            rw [upd_same, take_snoc hki, List.filter_append]
            have : [m].filter (fun m => decide (k ≠ 1) || decide (m ≠ n)) = [m] := by rw [List.filter_cons, if_pos hb]; rfl
            rw [this, sVs_snoc]⟩
        refine ⟨rfl, _, rfl, rfl, _, rfl, ?_⟩
        by_cases hk1 : V.int ((k : Nat) : Int) = .int 1
        · have hk1' : k = 1 := by have := V.int.inj hk1; omega
          refine iteND hk1 ⟨_, rfl, _, rfl, rfl, _, rfl, ?_⟩
          by_cases hmn : m = n
          · refine iteND (by rw [hmn]) ⟨hP.1, ?_⟩
            rw [hP.2, take_snoc hki, List.filter_append]
            have : [m].filter (fun m => decide (k ≠ 1) || decide (m ≠ n)) = [] := by
              rw [List.filter_cons, if_neg (by rw [decide_eq_false (fun z => z hk1'), decide_eq_false (fun z => z hmn)]; exact Bool.false_ne_true)]; rfl
            rw [this, List.append_nil]
          · refine iteNDn (fun z => hmn (V.str.inj z)) ?_
            obtain ⟨acc, h1, h2, h3⟩ := keep (by rw [decide_eq_true hmn, Bool.or_true])
            exact ⟨_, rfl, acc, h1, h2, h3⟩
        · refine iteNDn hk1 (iteT ?_)
          obtain ⟨acc, h1, h2, h3⟩ := keep (by rw [decide_eq_true (show k ≠ 1 from fun z => hk1 (by rw [z]; rfl))]; rfl)
          exact ⟨_, rfl, acc, h1, h2, h3⟩
      · have hD2 := hP.2
        rw [sVs_len, List.take_length, hsome] at hD2
        exact ⟨D, rfl, e5.trans (Wx.of hP.1), hW5.mono hP.1, Wx.of (W := W) hP.1 _ _ hln5, del_in hD2 hDW⟩
    rintro σ H5 ⟨ls, rfl, e5, hW5, hln5, hls5⟩
    -- a wrap of nothing is a put
    refine ⟨fun σ H' => ∃ k', k' < 7 ∧ (k' = 0 → rs.length < 60 ∧ k ≠ 1) ∧ (k' = 4 → rs.length < 60 ∧ som ≠ [] ∧ k ≠ 1) ∧ (k' = 1 → k = 1) ∧ σ = S ln (some (.int ((k' : Nat) : Int))) (some (.str n)) (some (optV po)) v6 (some (.ref ls)) ∧ Wx W H H' ∧ WellAt H' W (c + 4) ∧ del H' W ln = some (.lst (sVs (FM.names rs))) ∧ del H' W ls = some (.lst (sVs som)), ?_, ?_⟩
    · refine ⟨_, rfl, rfl, _, rfl, ?_⟩
      by_cases hk4 : V.int ((k : Nat) : Int) = .int 4
      · have hk4' : k = 4 := by have := V.int.inj hk4; omega
        have hlt : rs.length < 60 := Nat.lt_of_not_le fun z => (hkf z).2 hk4'
        refine iteD hk4 ⟨_, rfl, Nat.zero_le _, fun g hg => ?_⟩
        have e56 := Ex.new (o := .lst []) hg
        have hms : ∀ m ∈ som, nameOk m = true := fun m hm => by
          rw [← hsome] at hm
          exact ok.nms m (FM.kids_mem (List.mem_filter.mp hm).1)
        refine ⟨.list (som.map PyData.str), .list [], .lst (SqL.of (e56 _ _ (del_of hls5).1)) sD_all, .lst (SqL.of upd_same) .nil, sD_shaped fun m hm => name_strOk (hms m hm), by decide +kernel, _, rfl, ?_⟩
        rw [sD_nil]
        by_cases hs0 : som = []
        · exact iteD hs0 ⟨0, by decide, fun _ => ⟨hlt, by omega⟩, (fun z => by cases z), (fun z => by cases z), rfl, e5.trans (Wx.of e56), hW5.mono e56, Wx.of (W := W) e56 _ _ hln5, Wx.of (W := W) e56 _ _ hls5⟩
        · exact iteDn hs0 ⟨k, hk, fun z => by omega, fun _ => ⟨hlt, hs0, by omega⟩, fun z => z, rfl, e5.trans (Wx.of e56), hW5.mono e56, Wx.of (W := W) e56 _ _ hln5, Wx.of (W := W) e56 _ _ hls5⟩
      · exact iteDn hk4 ⟨k, hk, fun z => ⟨Nat.lt_of_not_le fun h => (hkf h).1 z, by omega⟩, fun z => absurd (by rw [z]; rfl) hk4, fun z => z, rfl, e5, hW5, hln5, hls5⟩
    rintro σ H6 ⟨k', hk', hz0, hz4, hz1, rfl, e6, hW6, hln6, hls6⟩
    have no : ∀ {i : Nat} {A B : Prop}, k' ≠ i → B → (if decide (V.int ((k' : Nat) : Int) = .int ((i : Nat) : Int)) = true then A else B) := fun h b => iteDn (fun z => h (by have := V.int.inj z; omega)) b
    have yes : ∀ {i : Nat} {A B : Prop}, k' = i → A → (if decide (V.int ((k' : Nat) : Int) = .int ((i : Nat) : Int)) = true then A else B) := fun h b => iteD (by rw [h]) b
    have fin : ∀ (D : FM.D Str) (H7 : Hp) (m : Nat), m ≤ c + 1000 → Wx W H H7 → WellAt H7 W m → FM.okD nmOk vvOk rs D → ∀ fa, H7 fa = none → ∀ t, upd H7 fa (.lst (encD D).args) t = none → Q (.ref t) (upd (upd H7 fa (.lst (encD D).args)) t (.tup [.int ((kindN (encD D) : Nat) : Int), .ref fa])) := fun D H7 m hm e7 hW7 hD fa hfa t ht => by
      have hfW := hW7.np hfa
      have e78 := Ex.new (o := .lst (encD D).args) hfa
      have e89 := Ex.new (o := .tup [.int ((kindN (encD D) : Nat) : Int), .ref fa]) ht
      exact q _ _ ((e7.trans (Wx.of e78)).trans (Wx.of e89)) (((hW7.mono e78).mono e89).le hm) ⟨t, fa, D, rfl, upd_same, Wx.of (W := W) e89 _ _ (del_in upd_same hfW), hD⟩
    have ls6 := (del_of hls6).1
    -- put
    refine ⟨_, rfl, rfl, _, rfl, ?_⟩
    by_cases hq0 : k' = 0
    · obtain ⟨hlt, hk1⟩ := hz0 hq0
      have hsk : som = FM.kidsOf rs po := by rw [← hsome]; exact kidsAll hk1
      refine yes (i := 0) hq0 ⟨_, rfl, _, rfl, W, ln, FM.names rs, c + 4, rfl, hW6, by omega, hln6, by rw [names_len]; omega, fun v H7 e7 hW7 hv => ?_⟩
      obtain ⟨nn, rfl, hno, hni⟩ := hv
      refine ⟨_, rfl, W, c + 404, rfl, hW7, by omega, fun v H8 e8 hW8 hv => ?_⟩
      obtain ⟨z, rfl, hz⟩ := hv
      refine ⟨_, rfl, _, rfl, _, rfl, ls, _, rfl, .inl (SqL.of (del_of (e8 _ _ (e7 _ _ hls6))).1), _, _, rfl, rfl, W, som.length + 1, c + 414, by rw [sVs_len]; rfl, hW8, by omega, by omega, by omega, fun v H9 e9 hW9 hv => ?_⟩
      obtain ⟨r, rfl, hr'⟩ := hv
      refine ⟨(by show 4 ≤ sizeLine; decide), fun fa hfa => ⟨(by show 2 ≤ sizeLine; decide), fun t ht => ?_⟩⟩
      exact fin (.put nn z po r) H9 (c + 415) (by omega) (((e6.trans e7).trans e8).trans e9) hW9 ⟨hno, hz, hpo, hni, by rw [← hsk]; omega, hlt⟩ fa hfa t ht
    refine no (i := 0) hq0 ⟨_, rfl, rfl, _, rfl, ?_⟩
    -- move
    by_cases hq1 : k' = 1
    · have hk1 := hz1 hq1
      have hsk : som = (FM.kidsOf rs po).filter fun m => decide (m ≠ n) := by rw [← hsome]; exact kidsOne hk1
      refine yes (i := 1) hq1 ⟨_, rfl, _, rfl, _, rfl, _, rfl, ls, _, rfl, .inl (SqL.of ls6), _, _, rfl, rfl, W, som.length + 1, c + 4, by rw [sVs_len]; rfl, hW6, by omega, by omega, by omega, fun v H9 e9 hW9 hv => ?_⟩
      obtain ⟨r, rfl, hr'⟩ := hv
      refine ⟨(by show 3 ≤ sizeLine; decide), fun fa hfa => ⟨(by show 2 ≤ sizeLine; decide), fun t ht => ?_⟩⟩
      exact fin (.move n po r) H9 (c + 5) (by omega) (e6.trans e9) hW9 ⟨hn, hpo, hpm hk1, by rw [← hsk]; omega⟩ fa hfa t ht
    refine no (i := 1) hq1 ⟨_, rfl, rfl, _, rfl, ?_⟩
    -- wrap
    by_cases hq4 : k' = 4
    · obtain ⟨hlt, hs0, hk1⟩ := hz4 hq4
      have hsk : som = FM.kidsOf rs po := by rw [← hsome]; exact kidsAll hk1
      have hs1 : 0 < som.length := List.length_pos_iff.mpr hs0
      refine yes (i := 4) hq4 ⟨_, rfl, _, rfl, ls, _, rfl, .inl (SqL.of ls6), W, som.length, c + 4, by rw [sVs_len]; rfl, hW6, by omega, hs1, by omega, fun v H7 e7 hW7 hv => ?_⟩
      obtain ⟨f, rfl, hf⟩ := hv
      refine ⟨_, rfl, _, _, rfl, rfl, _, rfl, _, rfl, ls, _, rfl, .inl (SqL.of (del_of (e7 _ _ hls6)).1), _, rfl, _, _, rfl, rfl, W, som.length - f, c + 5, by rw [sVs_len]; show [V.ref W, V.int (((som.length : Nat) : Int) - ((f : Nat) : Int))] = _; rw [Int.ofNat_sub (Nat.le_of_lt hf)], hW7, by omega, by omega, by omega, fun v H8 e8 hW8 hv => ?_⟩
      obtain ⟨g, rfl, hg⟩ := hv
      refine ⟨_, _, rfl, rfl, ?_⟩
      have el : ((f : Nat) : Int) + 1 + ((g : Nat) : Int) = ((f + 1 + g : Nat) : Int) := by omega
      refine ⟨_, rfl, _, rfl, W, ln, FM.names rs, c + 6, rfl, hW8, by omega, e8 _ _ (e7 _ _ hln6), by rw [names_len]; omega, fun v H9 e9 hW9 hv => ?_⟩
      obtain ⟨nn, rfl, hno, hni⟩ := hv
      refine ⟨_, rfl, W, c + 406, rfl, hW9, by omega, fun v H10 e10 hW10 hv => ?_⟩
      obtain ⟨z, rfl, hz⟩ := hv
      refine ⟨_, rfl, _, rfl, _, rfl, (by show 5 ≤ sizeLine; decide), fun fa hfa => ⟨(by show 2 ≤ sizeLine; decide), fun t ht => ?_⟩⟩
      have := fin (.wrap nn z po f (f + 1 + g)) H10 (c + 416) (by omega) ((((e6.trans e7).trans e8).trans e9).trans e10) hW10 ⟨hno, hz, hpo, hni, by omega, by rw [← hsk]; omega, hlt⟩ fa hfa t
      have e5 : (encD (.wrap nn z po f (f + 1 + g))).args = [.str nn, .int z, optV po, .int ((f : Nat) : Int), .int (((f : Nat) : Int) + 1 + ((g : Nat) : Int))] := by
        show [_, _, _, _, V.int _] = _
        rw [el]
      rw [e5] at this
      exact this ht
    refine no (i := 4) hq4 ⟨_, rfl, rfl, _, rfl, ?_⟩
    -- reverse
    by_cases hq5 : k' = 5
    · refine yes (i := 5) hq5 ⟨_, rfl, (by show 1 ≤ sizeLine; decide), fun fa hfa => ⟨(by show 2 ≤ sizeLine; decide), fun t ht => ?_⟩⟩
      exact fin (.rev po) H6 (c + 4) (by omega) e6 hW6 hpo fa hfa t ht
    refine no (i := 5) hq5 ⟨_, rfl, _, rfl, rfl, _, rfl, ?_⟩
    by_cases hq6 : k' = 6
    · subst hq6
      refine iteD rfl ⟨_, rfl, _, rfl, W, c + 4, rfl, hW6, by omega, fun v H8 e8 hW8 hv => ?_⟩
      obtain ⟨z, rfl, hz⟩ := hv
      refine ⟨(by show 2 ≤ sizeLine; decide), fun fa hfa => ⟨(by show 2 ≤ sizeLine; decide), fun t ht => ?_⟩⟩
      exact fin (.setv n z) H8 (c + 14) (by omega) (e6.trans e8) hW8 ⟨hn, hz⟩ fa hfa t ht
    · refine no (i := 6) hq6 ⟨_, rfl, (by show 1 ≤ sizeLine; decide), fun fa hfa => ⟨(by show 2 ≤ sizeLine; decide), fun t ht => ?_⟩⟩
      have hk23 : k' = 2 ∨ k' = 3 := by omega
      rcases hk23 with rfl | rfl
      · exact fin (.cut n) H6 (c + 4) (by omega) e6 hW6 hn fa hfa t ht
      · exact fin (.lift n) H6 (c + 4) (by omega) e6 hW6 hn fa hfa t ht
end
end K13
end
section
set_option Elab.async false
set_option linter.all false
set_option maxRecDepth 100000
set_option maxHeartbeats 4000000
namespace K13
open PySem PySem.Spec PyProof.Rows L2 LamX
open Evl (Ex)
/-- the word of NoDeed, or None -/
def TTwhy (K : PySem.W.Frag) : (XK → Hp → VK → Prop) → Hp → VK → Prop := fun tl H Q =>
  tl (fun cls d H' => cls = .ref (He.ga K "NoDeed") ∧ ∃ dd wd, d = some dd ∧ H' dd = some (.xd [("why", .str wd)]) ∧ Q (.str wd) H') H fun _ H' => Q .non H'
theorem takes_len {X : Cx} {W : WX} (t : Takes X W) : Takes X (fun cls d σ H => σ.length = X.N.length → W cls d σ H) := fun u s' h => by
  obtain ⟨a, B, sI, pins, σ, H, cls, d, e, I, h1, h2, h3, h4, h5, h6, h7⟩ := h
  exact t u s' ⟨a, B, sI, pins, σ, H, cls, d, e, I, h1, h2, h3, h4, h5, h6, h7 I.len⟩
section
variable {X : Cx}
theorem why_gives {g : Addr} {cdg : Value} {q : Str} (T : Tx X.K X.mg) : GivesTo X N_law_why "_law_why" (defScope st_law_why) g cdg (defBody st_law_why) "_law_act" q (TTwhy X.K) := by
  intro f c' s H Q tl act hc h
  refine ⟨_, pss_cons (ps_try_as (X := (cxOf C8.CX0 X.prog X.w X.K X.mg X.base N_law_why "_law_why" (defScope st_law_why) g cdg X.A X.stack s H C8.E0).nox) (i := 1) (c := .ref (He.ga X.K "NoDeed"))
      (tb := fun W D σ H => ∃ Ech : XK, (∀ cls d σ' H', Ech cls d H' → σ'.length = 2 → W cls d σ' H') ∧ σ[0]? = some (some (.ref f)) ∧ H c' = some (CodeO c' q) ∧ tl Ech H fun _ H' => D.nx σ H')
      rfl rfl sc_law_why.nd rfl rfl ⟨rfl, by decide, .inl T.g_NoDeed⟩ LamX.takes0 (fun W pn xe tk _ => ?_) (fun a oe cls d pn hz hf => pss_one (ps_ret (pe_xf (xfB_ok T.xf) T.no_NoDeed_why hz hf (pv 1))))) (pss_one (ps_ret pe_non)), ?_⟩
  · refine ⟨fun pins s' σ H' D I h' => ?_⟩
    obtain ⟨Ech, hW, h1, h2, h3⟩ := h'
    exact (pss_one (ps_expr (act _ pn xe Ech _ _ (takes_len tk) hW))).run pins s' σ H' D I ⟨h1, h2, h3⟩
  · refine ⟨_, fun cls d σ' H' ⟨e1, dd, wd, e2, e3, e4⟩ hl => ⟨true, ?_, fun _ a ha => ?_, fun z => by cases z⟩, rfl, hc, h⟩
    · rw [e1]; exact T.nd_exm
    · refine ⟨_, ?_, rfl, e1, dd, _, _, e2, e3, rfl, e4⟩
      rw [List.getElem?_set_self (by omega)]
end
end K13
end
section
set_option Elab.async false
set_option linter.all false
set_option maxRecDepth 100000
set_option maxHeartbeats 4000000
namespace K13
open PySem PySem.Spec PyProof.Rows L2 LamX
open Evl (Ex)
/-! ## x(lambda y=j: body): a lambda with one parameter that has a written default, called without arguments -/
/-- a lambda's names: captured ones, globals, and own ones that the maker does not have -/
structure LamD (N : List Str) (sc scope : Scope) : Prop where
  kd : scope.kind = .function
  cr : scope.isCoroutine = false
  gn : scope.isGenerator = false
  mine : ∀ z ∈ scope.names, z.2 ≠ .cell ∧ (z.2 = .local → z.1 ∉ N)
  capt : ∀ z ∈ scope.names, z.2 = .free → sc.names.lookup z.1 = some .cell ∨ sc.names.lookup z.1 = some .free
def lamDB (N : List Str) (sc scope : Scope) : Bool :=
  decide (scope.kind = .function) && (!scope.isCoroutine && (!scope.isGenerator && ((scope.names.all fun z => !decide (z.2 = .cell) && (!decide (z.2 = .local) || decide (z.1 ∉ N))) && scope.names.all fun z => !decide (z.2 = .free) || (decide (sc.names.lookup z.1 = some .cell) || decide (sc.names.lookup z.1 = some .free)))))
theorem lamD_by {N : List Str} {sc scope : Scope} (h : lamDB N sc scope = true) : LamD N sc scope := by
  unfold lamDB at h
  obtain ⟨a1, h⟩ := He.ba h
  obtain ⟨a2, h⟩ := He.ba h
  obtain ⟨a3, h⟩ := He.ba h
  obtain ⟨a4, a5⟩ := He.ba h
  refine ⟨of_decide_eq_true a1, by simpa using a2, by simpa using a3, fun z hz => ?_, fun z hz e => ?_⟩
  · obtain ⟨b1, b2⟩ := He.ba (List.all_eq_true.mp a4 z hz)
    refine ⟨by simpa using b1, fun e => ?_⟩
    rw [e] at b2
    simpa using b2
  · have b := List.all_eq_true.mp a5 z hz
    rw [e] at b
    have b : (decide (sc.names.lookup z.1 = some .cell) || decide (sc.names.lookup z.1 = some .free)) = true := b
    rcases Bool.or_eq_true_iff.mp b with c | c
    · exact .inl (of_decide_eq_true c)
    · exact .inr (of_decide_eq_true c)
section
variable {X : Cx} {pins : List (Addr × Obj)} {σ : L2.St} {H HZ : Hp} {s s1 : Shared}
theorem LamD.cells {scope : Scope} (L : LamD X.N X.env.scope scope) (ok : X.Ok) (z : Str × NameKind) (hz : z ∈ scope.names) (e : z.2 = .free) : ∃ c, X.env.cells.lookup z.1 = some c :=
  (L.capt z hz e).elim (fun k => ok.has _ (Or.inl k)) fun k => ok.has _ (Or.inr k)
/-- the body starts -/
theorem lamD_start {A : Around} {outer : List Env} {E : XK} {scope : Scope} {f c' : Addr} {h1 : Heap} {tk : Nat} {own : Str → Option Value} (I : L2.Inv X pins σ H s) (L : LamD X.N X.env.scope scope) (e0 : Env0 X.prog X.w X.K X.mg X.base A outer s1 HZ)
    (hd : A.handled = none) (un : Un (frs X.stack) [] H HZ s.heap s1.heap) (hown : h1.Ns s1.heap.objs.size own) (kp : ∀ b o, s1.heap.get? b = some o → h1.get? b = some o) : L2.Inv (lamCx X A outer s1 HZ E scope f c') [] σ HZ { s1 with heap := h1, toks := tk } := by
  have fromL : ∀ (y : Str) (c : Addr), (cloFrom X.env.cells scope.names []).lookup y = some c → X.env.cells.lookup y = some c := by
    intro y c e
    rcases cloFrom_mem (PySem.mem_of_lookup e) with hm | ⟨m1, m2⟩
    · cases hm
    · obtain ⟨c1, k1⟩ := L.cells I.ok _ m1 rfl
      have k1 : X.env.cells.lookup y = some c1 := k1
      have m3 : c = c1 := by
        rw [m2, k1]
        rfl
      exact m3 ▸ k1
  have toL : ∀ y : Str, scope.names.lookup y = some .free → ∃ c, (cloFrom X.env.cells scope.names []).lookup y = some c := by
    intro y e
    have q : (y, NameKind.free) ∈ scope.names := PySem.mem_of_lookup e
    exact mem_lookup (cloFrom_has (cells := X.env.cells) (acc := []) q)
  have cel : ∀ (c : Addr) (v : Option Value), H c = none → s.heap.IsCell c v → h1.IsCell c v := by
    rintro c v n ⟨o, ho, hv⟩
    obtain ⟨sl, q⟩ := un.any ho n (List.not_mem_nil)
    exact ⟨_, kp _ _ q, hv⟩
  have none' : ∀ b : Addr, b ∈ (lamCx X A outer s1 HZ E scope f c').ex → False := fun b z => List.not_mem_nil (show b ∈ ([] : List Addr) from z)
  have cellsOk : ∀ y, ((lamCx X A outer s1 HZ E scope f c').env.kindOf y = some .cell ∨ (lamCx X A outer s1 HZ E scope f c').env.kindOf y = some .free) → ∃ c, (lamCx X A outer s1 HZ E scope f c').env.cells.lookup y = some c := by
    intro y hy
    rcases hy with k | k
    · exact absurd rfl (L.mine _ (PySem.mem_of_lookup (show scope.names.lookup y = some .cell from k))).1
    · exact toL y k
  have okZ : (lamCx X A outer s1 HZ E scope f c').Ok := ⟨e0.mod, L.kd, rfl, rfl, Nat.le_refl _, fun y z c e1 e2 => I.ok.inj y z c (fromL y c e1) (fromL z c e2), cellsOk, fun y c z _ => (Bool.false_ne_true z).elim, fun _ => hd,
    Around.frames_deeper e0.frames, Or.inr ⟨rfl, rfl⟩, fun b z => (none' b z).elim, e0.bs, e0.bsz, fun b _ _ z => none' b z, fun b z => (none' b z).elim, e0.funs, e0.frf⟩
  have locals : ∃ m, h1.Ns s1.heap.objs.size m ∧ ∀ (i : Nat) (x : Str) (v : V), X.N[i]? = some x → σ[i]? = some (some v) → Vis scope x → ∃ u, RelV v u ∧ Look (lamEnv X scope s1.heap.objs.size f c') h1 m x u := by
    refine ⟨own, hown, fun i x v n1 n2 n3 => ?_⟩
    rcases n3 with k | k | k
    · exact absurd (List.mem_of_getElem? n1) ((L.mine _ (PySem.mem_of_lookup k)).2 rfl)
    · exact absurd rfl (L.mine _ (PySem.mem_of_lookup k)).1
    · have seen : Vis X.env.scope x := (L.capt _ (PySem.mem_of_lookup k) rfl).elim (fun a => Or.inr (Or.inl a)) fun a => Or.inr (Or.inr a)
      obtain ⟨m, _, lk⟩ := I.loc
      obtain ⟨u, ru, qu⟩ := lk i x v n1 n2 seen
      obtain ⟨c2, q2⟩ := toL x k
      have q1 := fromL x c2 q2
      rcases qu with ⟨kl, _⟩ | ⟨_, c3, q3, isc⟩
      · exfalso
        have kl : X.env.scope.names.lookup x = some .local := kl
        rcases L.capt _ (PySem.mem_of_lookup k) rfl with a | a
        · have a : X.env.scope.names.lookup x = some .cell := a
          rw [a] at kl; cases kl
        · have a : X.env.scope.names.lookup x = some .free := a
          rw [a] at kl; cases kl
      · rw [q1] at q3
        cases q3
        exact ⟨u, ru, Or.inr ⟨Or.inr k, c2, q2, cel _ _ (I.freeC x c2 q1) isc⟩⟩
  refine ⟨okZ, rfl, e0.bare, Un.kept kp, locals, fun y c e => ?_, e0.hok.fresh (Nat.le_refl _), fun y c e => ?_, fun q hq => (List.not_mem_nil (show q ∈ ([] : List (Addr × Obj)) from hq)).elim, e0.hok.kept kp, I.len⟩
  · obtain ⟨v, isc⟩ := I.cell y c (fromL y c e)
    exact ⟨v, cel c v (I.freeC y c (fromL y c e)) isc⟩
  · obtain ⟨v, o, ho, hv⟩ := I.cell y c (fromL y c e)
    exact un.free c o ho (I.freeC y c (fromL y c e)) List.not_mem_nil
abbrev lamQ (X : Cx) : Str := X.env.qual ++ "<lambda>"
/-- what is known of the lambda at f, its defaults at t -/
structure LamAt (X : Cx) (H : Hp) (s : Shared) (params : Arguments) (body : Expr) (scope : Scope) (j : Int) (f c' t : Addr) : Prop where
  fo : ∃ doc pm ctv, s.heap.get? f = some (PySem.W.kdv_obj "<lambda>" (lamQ X) params (.expr body) scope (cloFrom X.env.cells scope.names []) (.ref t) doc pm c' ctv)
  fn : H f = none
  ff : f ∉ frs X.stack
  to : ∃ tok, s.heap.get? t = some (PySem.W.kdv_tup [.int j tok])
  tn : H t = none
  tf : t ∉ frs X.stack
theorem lamD_make {T : List (Addr × Str)} {c P : Addr} {params : Arguments} {body : Expr} {scope : Scope} {pos dp : Pos} {dk : Nat} {j : Int} {Q : Value → Shared → Prop} (I : L2.Inv X pins σ H s) (TB : TabB X.base X.mg c P) (hcode : X.env.code = .ref c)
    (hm : (P, lamQ X) ∈ T) (hu : ∀ p ∈ T, p.1 = P → p.2 = lamQ X) (hT : Tabs T H) (hdf : params.defaults = [.Constant (.int j) dk dp]) (hkd : params.kw_defaults = []) (L : LamD X.N X.env.scope scope)
    (h : ∀ (f c' t : Addr) (H1 : Hp) (s' : Shared), L2.Inv X pins σ H1 s' → ExtN H H1 → Tabs T H1 → LamAt X H1 s' params body scope j f c' t → H1 c' = some (CodeO c' (lamQ X)) → Q (.ref f) s') :
    wpAny (model X.prog X.w) X.A (eval (.Lambda params body scope pos) X.env) Q X.xe s := by
  obtain ⟨ps, hP, trip, among⟩ := hT _ hm
  refine PySem.W.kdv_lam (by rw [hdf]; rfl) hkd ?_
  rw [hdf]
  refine PySem.W.kdv_all1 (thn ((pe_int (i := j) (pos := dp)).run pins s σ H (fun v H1 => v = .int j ∧ H1 = H) I ⟨rfl, rfl⟩) fun v s1 ⟨x, H1, I1, r1, e1, e2⟩ => ?_)
  subst e1 e2
  obtain ⟨tok, rfl⟩ := r1
  refine PySem.W.kdv_all0 ?_
  rw [makeFunction_eq]
  simp only [List.zip_nil_right, List.filterMap_nil, List.isEmpty_nil, if_true, pure_bind, List.isEmpty_cons, Bool.false_eq_true, if_false]
  refine wpAny_bind (wpAny_newTextTuple ?_)
  have I2 : L2.Inv X pins σ H1 { s1 with heap := s1.heap.push (PySem.W.kdv_tup [.int j tok]) } := I1.kept (t' := s1.toks) fun b o e => Heap.get?_push_of_some _ e
  have tob : ({ s1 with heap := s1.heap.push (PySem.W.kdv_tup [.int j tok]) } : Shared).heap.get? s1.heap.objs.size = some (PySem.W.kdv_tup [.int j tok]) := Heap.get?_push_size _ rfl
  have tnew : H1 s1.heap.objs.size = none := I1.hok.fresh (Nat.le_refl _)
  have noStk : ∀ (z : Shared), L2.Inv X pins σ H1 z → ∀ a : Addr, z.heap.objs.size ≤ a → a ∉ frs X.stack := by
    intro z Iz a ha hin
    rcases List.mem_cons.mp (Iz.stkSub _ hin) with e | e
    · have lt := Iz.lt
      rw [← e] at lt
      exact Nat.lt_irrefl _ (Nat.lt_of_lt_of_le lt ha)
    · exact Iz.nofs ha e
  have tst : s1.heap.objs.size ∉ frs X.stack := noStk s1 I1 _ (Nat.le_refl _)
  generalize ({ s1 with heap := s1.heap.push (PySem.W.kdv_tup [.int j tok]) } : Shared) = s2 at I2 tob
  generalize s1.heap.objs.size = t at tob tnew tst
  have tab : s2.heap.get? P = some { cls := .none, data := .fields ps } := I2.hok P _ hP
  have bat : s2.heap.BuiltinsAt X.mg P := TB.bm.keeps I2.bk
  have glo := I2.mod.glob.keeps I2.bk
  have cod := TB.code.keeps I2.bk
  cases hc : codeAmong pos ps.toList with
  | some cv =>
    obtain ⟨c', ecv, hco⟩ := among pos cv hc
    subst ecv
    refine PySem.W.kdv_makeTailHit (closure_ok (L.cells I2.ok)) I2.ok.glob glo hcode cod tab trip hc bat fun ctv doc h' tk hx hsz => ?_
    refine h h'.objs.size c' t H1 _ (I2.kept fun b o e => Heap.get?_push_of_some _ (hx b o e)) (ExtN.refl H1) hT ⟨⟨doc, _, ctv, Heap.get?_push_size _ rfl⟩, I2.hok.fresh hsz, noStk _ I2 _ hsz, ⟨tok, Heap.get?_push_of_some _ (hx _ _ tob)⟩, tnew, tst⟩ hco
  | none =>
    refine PySem.W.kdv_makeTail (closure_ok (L.cells I2.ok)) I2.ok.glob glo hcode cod tab trip hc TB.gP bat fun c' ctv doc h' tk hx hge hlt hrec htb => ?_
    obtain ⟨c2, oc, ws, tq, ec, hoc, hdat, hq⟩ := hrec
    cases ec
    have cnew : H1 c' = none := I2.hok.fresh hge
    have sz : s2.heap.objs.size ≤ h'.objs.size := Nat.le_trans hge (Nat.le_of_lt hlt)
    have tP : t ≠ P := fun z => by rw [z] at tnew; rw [tnew] at hP; cases hP
    have tltn : t ≠ c' := fun z => by
      have lt := Heap.lt_size tob
      rw [z] at lt
      exact Nat.lt_irrefl _ (Nat.lt_of_lt_of_le lt hge)
    have I3 := inv_table (t' := tk) (more := #[rawInt pos.line, rawInt pos.col, .ref c']) (h' := h'.push (PySem.W.kdv_obj "<lambda>" (lamQ X) params (.expr body) scope (cloFrom X.env.cells scope.names []) (.ref t) doc ((X.mg "__name__").getD .none) c' ctv)) I2 hP
      (fun b o hb e => Heap.get?_push_of_some _ (hx b o hb e)) (Heap.get?_push_of_some _ htb) hge ⟨oc, ws, tq, Heap.get?_push_of_some _ hoc, hdat, hq⟩
    have grown : ExtN H1 (upd (upd H1 P (.tbl (ps ++ #[rawInt pos.line, rawInt pos.col, .ref c']))) c' (CodeO c' (lamQ X))) := by
      intro b o e nt
      have n1 : b ≠ c' := ne_of_none e cnew
      have n2 : b ≠ P := fun z => by
        rw [z, hP] at e
        exact nt ps (Option.some.inj e).symm
      rw [upd_ne n1, upd_ne n2]
      exact e
    have lst : (ps ++ #[rawInt pos.line, rawInt pos.col, .ref c']).toList = ps.toList ++ [rawInt pos.line, rawInt pos.col, .ref c'] := by simp
    have tabs' : Tabs T (upd (upd H1 P (.tbl (ps ++ #[rawInt pos.line, rawInt pos.col, .ref c']))) c' (CodeO c' (lamQ X))) := by
      intro p hp
      by_cases hb : p.1 = P
      · refine ⟨ps ++ #[rawInt pos.line, rawInt pos.col, .ref c'], ?_, by rw [lst]; exact PySem.TriplesOk_snoc _ _ _ _ trip, fun p' cv hcv => ?_⟩
        · rw [hb, upd_ne (ne_of_none hP cnew), upd_same]
        · rw [lst] at hcv
          rw [hu p hp hb]
          rcases among_app _ trip hcv with z | z
          · obtain ⟨c0, e1, e2⟩ := among p' cv z
            exact ⟨c0, e1, grown _ _ e2 codeO_ne⟩
          · exact ⟨c', z, upd_same⟩
      · obtain ⟨ps', a1, a2, a3⟩ := hT p hp
        refine ⟨ps', ?_, a2, fun p' cv hcv => ?_⟩
        · rw [upd_ne (ne_of_none a1 cnew), upd_ne hb]
          exact a1
        · obtain ⟨c0, e1, e2⟩ := a3 p' cv hcv
          exact ⟨c0, e1, grown _ _ e2 codeO_ne⟩
    have keepT : h'.get? t = some (PySem.W.kdv_tup [.int j tok]) := hx t _ tP tob
    have fresh : ∀ a : Addr, H1 a = none → a ≠ c' → a ≠ P → upd (upd H1 P (.tbl (ps ++ #[rawInt pos.line, rawInt pos.col, .ref c']))) c' (CodeO c' (lamQ X)) a = none := fun a n n1 n2 => by rw [upd_ne n1, upd_ne n2]; exact n
    have hPlt := Heap.lt_size tab
    exact h h'.objs.size c' t _ _ I3 grown tabs' ⟨⟨doc, _, ctv, Heap.get?_push_size _ rfl⟩, fresh _ (I2.hok.fresh sz) (Nat.ne_of_gt hlt) (Nat.ne_of_gt (Nat.lt_of_lt_of_le hPlt sz)), noStk _ I2 _ sz, ⟨tok, Heap.get?_push_of_some _ keepT⟩, fresh t tnew tltn tP, tst⟩ upd_same
end
end K13
end
section
set_option Elab.async false
set_option linter.all false
set_option maxRecDepth 100000
set_option maxHeartbeats 4000000
namespace K13
open PySem PySem.Spec PyProof.Rows L2 LamX
open Evl (Ex)
section
variable {X : Cx} {pins : List (Addr × Obj)} {σ : L2.St} {H : Hp} {s : Shared}
/-- how the default fills the one parameter y -/
def DefB (params : Arguments) (body : Expr) (scope : Scope) (y : Str) (j : Int) : Prop := ∀ (q : Str) (cl : List (Str × Addr)) (doc pm cv ctv : Value) (t : Addr) (tok : Tok) (s : Shared), s.heap.get? t = some (PySem.W.kdv_tup [.int j tok]) →
  BindsTo s (PySem.W.kdv_fn "<lambda>" q params (.expr body) scope cl (.ref t) doc pm cv ctv) ⟨[], []⟩ [(y, .int j tok)]
/-- the call of it, in the def that got it -/
theorem lamD_act {CXg : CXT} {Eg : XK} {Ng : List Str} {qg : Str} {sg : Scope} {g f c' t : Addr} {cdg : Value} {params : Arguments} {body : Expr} {scope : Scope} {k i : Nat} {a y : Str} {j : Int} {pn : List (Addr × Obj)} {xe : Value → Shared → Prop} {W : WX} {E : XK} {tb : TE} {p1 p2 : Pos}
    (I : L2.Inv X pins σ H s) (L : LamD X.N X.env.scope scope) (la : LamAt X H s params body scope j f c' t) (hB : DefB params body scope y j) (hy : scope.names.lookup y = some .local)
    (tk : Takes ((cxOf CXg X.prog X.w X.K X.mg X.base Ng qg sg g cdg X.A X.stack s H Eg).tr pn xe) W) (hW : ∀ cls d σ' H', E cls d H' → W cls d σ' H') (hr : Room (k + 1) (X.A.deeper (envOfC qg sg s.heap.objs.size g cdg)))
    (hbody : ∀ (A : Around) (outer : List Env) (s : Shared) (H : Hp), Room k (A.deeper (lamEnv X scope s.heap.objs.size f c')) → PE (lamCx X A outer s H E scope f c') body tb)
    (hN : Ng[i]? = some a) (hv : Vis sg a) (hd : (a == ("__debug__" : Str)) = false := by decide) (hcd : (a == ("__classdict__" : Str)) = false := by decide) :
    PE ((cxOf CXg X.prog X.w X.K X.mg X.base Ng qg sg g cdg X.A X.stack s H Eg).tr pn xe) (.Call (.Name a p1) [] [] p2) (fun σZ HZ Q => σZ[i]? = some (some (.ref f)) ∧ HZ c' = some (CodeO c' (lamQ X)) ∧ tb σ HZ Q) := by
  constructor
  rintro pinsZ sZ σZ HZ Q IZ ⟨hs, hc, ht⟩
  refine wpAny_Call_Name_kw (thn ((pe_var (pos := p1) (i := i) hN hv hd hcd).run pinsZ sZ σZ HZ (fun v H1 => v = .ref f ∧ H1 = HZ) IZ ⟨.ref f, hs, rfl, rfl⟩) ?_)
  rintro u s1 ⟨v, H1, I1, r1, rfl, rfl⟩
  cases r1
  obtain ⟨⟨doc, pm, ctv, fo⟩, fn, ff, ⟨tok, to⟩, tn, tf⟩ := la
  have still : ∀ (b : Addr) (o : Obj), s.heap.get? b = some o → H b = none → b ∉ frs X.stack → s1.heap.get? b = some o := fun b o q1 q2 q3 => I1.base.keep b o q1 q2 q3 List.not_mem_nil
  have fo1 := still f _ fo fn ff
  have to1 := still t _ to tn tf
  refine PySem.W.callWith_F0 ⟨_, _, _, _, fo1⟩ ?_
  have un : Un (frs X.stack) [] H H1 s.heap s1.heap := I1.base
  obtain ⟨⟨oc, ws, tq, hoc, hdat, hq⟩, _, _⟩ := I1.hok c' _ hc
  have ran : codeAny (model X.prog X.w) (X.A.deeper (envOfC qg sg s.heap.objs.size g cdg)) (.call (.ref f) ⟨[], []⟩) (CR (L2.CX X.prog X.w) (envOfC qg sg s.heap.objs.size g cdg :: X.stack) X.prog X.w H1 s1 Q E) s1 := by
    refine PySem.W.kla_callFunE hr.depth fo1 rfl L.cr L.gn rfl ⟨c', oc, ws, tq, rfl, hoc, hdat, hq⟩ (hB _ _ doc pm _ ctv t tok s1 to1 _ _ _ _ ?_)
    refine wpAny_newFunctionEnv (fun z hz => (L.mine z hz).1) (fun z hz => ?_) (fun h1 hns sb => ⟨I1.nolimit.fresh _ sb, ?_⟩) L.kd
    · rw [List.mem_singleton.mp hz]
      exact hy
    · have kp : ∀ b o, s1.heap.get? b = some o → h1.get? b = some o := fun b o e => sb.extBut b o (Nat.ne_of_lt (Heap.lt_size e)) (Heap.get?_push_of_some _ e)
      have J := lamD_start (tk := s1.toks + 1) (E := E) (f := f) (c' := c') I L I1.env0 hr.hd un hns kp
      show codeAny _ _ (.expr body (lamEnv X scope s1.heap.objs.size f c')) _ _
      refine PySem.W.kla_codeExpr (wpAny_mono ((hbody _ _ s1 H1 (hr.deeper _)).run [] _ _ H1 Q J ht) ?_ fun _ _ z => z)
      rintro z s' ⟨v', H', J', rv, q⟩
      exact ⟨v', H', J'.os, J'.bare, J'.base, J'.hok, rv, q⟩
  refine wpAny_call (codeAny_mono ran ?_)
  rintro (e | fl) s' hq
  · exact passes_call tk hW pinsZ σZ H1 s1 e s' I1 hq
  · cases fl with
    | ret u => exact I1.after hq
    | next => exact hq.elim
    | brk => exact hq.elim
    | cont => exact hq.elim
/-- x(lambda y=j: body) -/
theorem pe_lamcallD {T : List (Addr × Str)} {TT : (XK → Hp → VK → Prop) → Hp → VK → Prop} {x a y : Str} {g c P : Addr} {k : Nat} {pg : Arguments} {bg : List Stmt} {sg : Scope} {dV kV doc pm cdv ct oc : Value} {an od : Option Addr} {osl : Array (Option Value)} {Ng : List Str}
    {params : Arguments} {body : Expr} {scope : Scope} {t : XK → TE} {p lpos pos dp : Pos} {dk : Nat} {j : Int} (hg : Gl X x) (hm : X.mg x = some (.ref g)) (hk : PySem.W.keepIn X.K (.ref g) = true)
    (lk : X.K.lookup g = some ⟨oc, od, .func (PySem.W.fnOf x x pg bg sg dV kV doc pm an cdv ct), osl⟩) (hcg : PySem.W.codeIn X.K cdv x = true) (hb : L2.Binds X.K (PySem.W.fnOf x x pg bg sg dV kV doc pm an cdv ct) [a] []) (Sg : FnScope Ng [a] sg) (hNg : Ng[0]? = some a) (hva : Vis sg a)
    (hG : GivesTo X Ng x sg g cdv bg a (lamQ X) TT) (TB : TabB X.base X.mg c P) (hcode : X.env.code = .ref c) (hmT : (P, lamQ X) ∈ T) (hu : ∀ p ∈ T, p.1 = P → p.2 = lamQ X) (hr : Room (k + 2) X.A) (L : LamD X.N X.env.scope scope)
    (hdf : params.defaults = [.Constant (.int j) dk dp]) (hkd : params.kw_defaults = []) (hB : DefB params body scope y j) (hy : scope.names.lookup y = some .local)
    (hbody : ∀ (A : Around) (outer : List Env) (s : Shared) (H : Hp) (E : XK) (f c' : Addr), Room k (A.deeper (lamEnv X scope s.heap.objs.size f c')) → PE (lamCx X A outer s H E scope f c') body (t E))
    (hdb : (x == ("__debug__" : Str)) = false := by decide) (hd : (a == ("__debug__" : Str)) = false := by decide) (hcd : (a == ("__classdict__" : Str)) = false := by decide) :
    PE X (.Call (.Name x p) [.Lambda params body scope lpos] [] pos) (tLam T TT t) := by
  constructor
  rintro pins s σ H Q I ⟨hT, h⟩
  refine wpAny_Call_Name_kw (ld_glob I hg hm (PySem.W.callWith_K (h₀ := X.base) I.ok.mod.kin hk ?_ (by rfl) (by rfl)) hdb)
  show wpAny _ _ (spliced ((false, eval (.Lambda params body scope lpos) X.env) :: backTo pos (starEach [] X.env))) _ _ s
  refine Calls.spliced_cons (lamD_make I TB hcode hmT hu hT hdf hkd L ?_)
  intro f c' tt H1 s' I1 grown tabs la hco
  refine Calls.spliced_nil ⟨I1.kIn, ?_⟩
  have ran : codeAny (model X.prog X.w) X.A (.call (.ref g) ⟨[.ref f], []⟩) (CR C8.CX0 X.stack X.prog X.w H1 s' Q C8.E0) s' := by
    refine run_ofS (N := Ng) (ps := [a]) (us := [.ref f]) (vs := [.ref f]) lk hcg Sg hr I1.env0 (hb s' [.ref f] I1.kIn rfl) (.cons rfl .nil) rfl ?_
    intro hr'
    obtain ⟨t', ht', hq'⟩ := hG f c' s' H1 Q (fun E H' Q' => t E σ H' Q') (fun W pn xe E p1 p2 tk hW => lamD_act (i := 0) I1 L la hB hy tk hW hr' (fun A outer s H hr2 => hbody A outer s H E f c' hr2) hNg hva hd hcd) hco (h H1 grown tabs)
    exact ⟨t', ht'.nox, hq'⟩
  refine wpAny_call (codeAny_mono ran ?_)
  rintro (e | fl) s2 hq
  · exact (show False from hq).elim
  · cases fl with
    | ret u => exact I1.after hq
    | next => exact hq.elim
    | brk => exact hq.elim
    | cont => exact hq.elim
end
end K13
end
section
set_option Elab.async false
set_option linter.all false
set_option maxRecDepth 100000
set_option maxHeartbeats 4000000
namespace K13
open PySem PySem.Spec PyProof.Rows L2 LamX
open Evl (Ex)
section
variable {X : Cx} {CX : CXT} {k n : Nat} {f : Addr} {fd : FuncData} {ps ks : List Str} {sp : Sp} {E : XK} {x : Str} {p pos : Pos} {kws : List Keyword} {tk : TA} {g : List Value → List Value → List Value} {gV : List V → List V → List V}
/-- f(k = v, ..), no value by place -/
theorem pe_callN0 (F : FnOk X.prog X.w X.K X.mg X.base CX k f fd ps sp) (hr : Room k X.A) (hg : Gl X x) (hm : X.mg x = some (.ref f)) (hk : PySem.W.keepIn X.K (.ref f) = true) (hb : KBn X.K fd ps 0 ks g gV) (hx : Passes CX X E) (hkw : PK X kws tk)
    (hall : (backToKw pos (keywordEach kws X.env)).all (·.1.isSome) = true := by rfl) (hks : (backToKw pos (keywordEach kws X.env)).filterMap (·.1) = ks := by rfl) (hdb : (x == ("__debug__" : Str)) = false := by decide)
    (hpl : ((backTo pos (starEach [] X.env)).any (·.1) || (backToKw pos (keywordEach kws X.env)).any (·.1.isNone)) = false := by rfl) : PE X (.Call (.Name x p) [] kws pos) (tCallN 0 ks.length sp gV E tNil tk) := by
  constructor
  intro pins s σ H Q I h
  refine wpAny_Call_Name_kw (ld_glob I hg hm (PySem.W.callWith_KW0 (h₀ := X.base) I.ok.mod.kin hk hall (thn (hkw.run pos pins s σ H _ I h) ?_) hpl) hdb)
  rintro ws s2 ⟨zs, H2, I2, rz, l1, l2, q2⟩
  refine ⟨I2.kIn, ?_⟩
  rw [hks]
  exact run_fnN (us := []) (vs := []) F hr hb hx I2 .nil rz rfl l2 q2
/-- xs + ys of lists, the left one locked -/
def rCatF (K : PySem.W.Frag) : R2 := fun x y H Q => ∃ l b xs zs, x = .ref l ∧ y = .ref b ∧ SqL K H l xs ∧ SqL K H b zs ∧ xs.length + zs.length ≤ sizeLine ∧ ∀ p, H p = none → Q (.ref p) (upd H p (.lst (xs ++ zs)))
theorem op_catF : OpR X (binaryOp .Add) (rCatF X.K) := by
  intro pins s σ H x y v u Q I rx ry h
  obtain ⟨l, b, xs, zs, rfl, rfl, hl, hb, hz, q⟩ := h
  cases rx
  cases ry
  obtain ⟨its, r, p1, z1⟩ := I.list hl
  obtain ⟨its2, r2, p2, z2⟩ := I.list hb
  obtain ⟨⟨cls, dd, data, sl⟩, ho, hc, m, hd⟩ := id p1.isList
  obtain ⟨⟨cls2, dd2, data2, sl2⟩, ho2, hc2, m2, hd2⟩ := id p2.isList
  simp only at hc hd hc2 hd2
  subst hc hd hc2 hd2
  have el := r.length
  have el2 := r2.length
  refine concat_meets ⟨_, ho, rfl⟩ ⟨_, ho2, rfl⟩ noFill_list_add seq_list_add PySem.F.slot_list_add PySem.F.entry_list_add (PySem.F.args_list_add_2 _ _) (list_addW l b its.toArray its2.toArray m m2 dd dd2 sl sl2 (by rw [List.size_toArray, List.size_toArray]; omega)) ⟨ho, ho2, ?_⟩
  have ea : its.toArray ++ its2.toArray = (its ++ its2).toArray := by simp
  rw [ea]
  exact ⟨.ref _, _, I.lnew (t' := s.toks) (r.append r2) (by rw [List.length_append]; omega), rfl, q _ I.fresh⟩
/-- lists of unlike lengths -/
def rNeLen (K : PySem.W.Frag) : R2 := fun x y H Q => ∃ a b xs ys, x = .ref a ∧ y = .ref b ∧ SqL K H a xs ∧ SqL K H b ys ∧ xs.length ≠ ys.length ∧ Q (.bl true) H
theorem op_neLen (hu : X.A.units < cLine) : OpR X (compareOp .NotEq) (rNeLen X.K) := by
  intro pins s σ H x y v u Q I rx ry h
  obtain ⟨a, b, xs, ys, rfl, rfl, ha, hb, hne, q⟩ := h
  cases rx
  cases ry
  obtain ⟨its, r, p1, z1⟩ := I.list ha
  obtain ⟨its2, r2, p2, z2⟩ := I.list hb
  have el := r.length
  have el2 := r2.length
  unfold compareOp
  refine SeqAt.RcNeAt.lists_lengths p1.isList p2.isList ?_ hu X.prog X.w X.xe _ ⟨.bl true, H, I, rfl, q⟩
  rw [List.size_toArray, List.size_toArray, ← el, ← el2]
  simpa using hne
end
/-! ## undoing by keywords -/
def swp {α : Type} : List α → List α
  | [a, b] => [b, a]
  | l => l
theorem undo_kb {K : PySem.W.Frag} {f : Addr} {fd : FuncData} (F : FunD K "undoing" "undoing" (defArgs st_undoing) (defBody st_undoing) (defScope st_undoing) [] [] f fd) : KBn K fd ["forest", "deed"] 0 ["deed", "forest"] (fun _ ws => swp ws) (fun _ zs => swp zs) := by
  obtain ⟨oc, od, dV, kV, doc, pm, an, cdv, ct, osl, rfl, lk, hcd, hD, hK⟩ := F.ex
  have hdV : dV = .none := by
    rcases hD with ⟨_, e⟩ | ⟨e, _⟩
    · exact e
    · exact absurd rfl e
  subst hdV
  refine ⟨fun s us ws hk l1 l2 => ?_, fun {vs us zs ws} r1 r2 => ?_⟩
  · have e1 : us = [] := List.length_eq_zero_iff.mp l1
    subst e1
    match ws, l2 with
    | [a, b], _ => exact .of_eq rfl
  · cases r2 with
    | nil => exact .nil
    | cons q1 r2 =>
      cases r2 with
      | nil => exact .cons q1 .nil
      | cons q2 r2 =>
        cases r2 with
        | nil => exact .cons q2 (.cons q1 .nil)
        | cons q3 r2 => exact .cons q1 (.cons q2 (.cons q3 r2))
end K13
end
section
set_option Elab.async false
set_option linter.all false
set_option maxRecDepth 100000
set_option maxHeartbeats 4000000
namespace K13
open PySem PySem.Spec PyProof.Rows L2 LamX
open Evl (Ex)
/-! ## == of lists of deeds -/
theorem opt_plain {rs : FM.Rows Str} (ok : Okf rs) {p : Option Str} (h : FM.parOk rs p) : plainV (optV p) = true := by
  cases p with
  | none => rfl
  | some n => exact name_strOk (ok.nms n (h n rfl))
theorem nm_plain {rs : FM.Rows Str} (ok : Okf rs) {n : Str} (h : n ∈ FM.names rs) : plainV (.str n) = true := name_strOk (ok.nms n h)
theorem ok_plain {rs : FM.Rows Str} (ok : Okf rs) {D : FM.D Str} (h : FM.okD nmOk vvOk rs D) : (encD D).args.all plainV = true := by
  have A : ∀ {vs : List V}, (∀ v ∈ vs, plainV v = true) → vs.all plainV = true := fun h => List.all_eq_true.mpr h
  have I : ∀ i : Int, plainV (.int i) = true := fun _ => rfl
  refine A fun v hv => ?_
  cases D with
  | put n z p r =>
    obtain ⟨h1, h2, h3, h4, h5, h6⟩ := h
    have hv : v ∈ [V.str n, .int z, optV p, .int (r : Nat)] := hv
    simp only [List.mem_cons, List.not_mem_nil, or_false] at hv
    rcases hv with rfl | rfl | rfl | rfl
    · exact name_strOk h1
    · rfl
    · exact opt_plain ok h3
    · rfl
  | move n p r =>
    obtain ⟨h1, h2, h3, h4⟩ := h
    have hv : v ∈ [V.str n, optV p, .int (r : Nat)] := hv
    simp only [List.mem_cons, List.not_mem_nil, or_false] at hv
    rcases hv with rfl | rfl | rfl
    · exact nm_plain ok h1
    · exact opt_plain ok h2
    · rfl
  | cut n =>
    have hv : v ∈ [V.str n] := hv
    rw [List.mem_singleton.mp hv]
    exact nm_plain ok h
  | lift n =>
    have hv : v ∈ [V.str n] := hv
    rw [List.mem_singleton.mp hv]
    exact nm_plain ok h
  | wrap n z p f l =>
    obtain ⟨h1, h2, h3, h4, h5, h6, h7⟩ := h
    have hv : v ∈ [V.str n, .int z, optV p, .int (f : Nat), .int (l : Nat)] := hv
    simp only [List.mem_cons, List.not_mem_nil, or_false] at hv
    rcases hv with rfl | rfl | rfl | rfl | rfl
    · exact name_strOk h1
    · rfl
    · exact opt_plain ok h3
    · rfl
    · rfl
  | rev p =>
    have hv : v ∈ [optV p] := hv
    rw [List.mem_singleton.mp hv]
    exact opt_plain ok h
  | setv n z =>
    have hv : v ∈ [V.str n, .int z] := hv
    simp only [List.mem_cons, List.not_mem_nil, or_false] at hv
    rcases hv with rfl | rfl
    · exact nm_plain ok h.1
    · rfl
theorem plays_plain : ∀ {ds : Ds} {rs rs' : FM.Rows Str}, Okf rs → FM.Plays nmOk vvOk rs ds rs' → ∀ d ∈ ds, (encD d).args.all plainV = true
  | [], _, _, _, _, d, h => by cases h
  | e :: ds, rs, rs', ok, ⟨h1, h2⟩, d, h => by
    rcases List.mem_cons.mp h with rfl | h
    · exact ok_plain ok h1
    · exact plays_plain (FM.main ok h1).1 h2 d h
theorem mon_eqR {K : PySem.W.Frag} {c : Str} : ∀ a b H H', Ext H H' → EqR K c a b H → EqR K c a b H' := fun a b H H' e ⟨d, h1, h2, h3, h4⟩ => ⟨d, h1.mono e, h2.mono e, h3, h4⟩
abbrev DX (K : PySem.W.Frag) (c : Str) : Eqv := DIns (He.ga K c) (EqR K c)
/-- two deeds with the same fields -/
def DDeed (K : PySem.W.Frag) : Eqv := fun x y H => (fun x y H => (fun x y H => (fun x y H => (fun x y H => (fun x y H => DX K "Put" x y H ∨ DX K "Move" x y H) x y H ∨ DX K "Cut" x y H) x y H ∨ DX K "Lift" x y H) x y H ∨ DX K "Wrap" x y H) x y H ∨ DX K "Reverse" x y H) x y H ∨ DX K "SetValue" x y H
theorem mon_deed {K : PySem.W.Frag} : Mon (DDeed K) :=
  ((((((mon_ins mon_eqR).or (mon_ins mon_eqR)).or (mon_ins mon_eqR)).or (mon_ins mon_eqR)).or (mon_ins mon_eqR)).or (mon_ins mon_eqR)).or (mon_ins mon_eqR)
theorem eq_one {X : Cx} {c : Str} (M : MFn X.prog X.w X.K X.mg X.base (He.ga X.K c) "__eq__" CX0 2 ["self", "other"] (spEq (EqR X.K c))) : EqG X 2 (DX X.K c) := by
  obtain ⟨f, fd, hm, hb, F⟩ := M
  exact eqG_ins (E := E00) F hm.at_ hm.fn hb pass0
theorem eq_deed {X : Cx} (T : Tx X.K X.mg) : EqG X 2 (DDeed X.K) :=
  ((((((eq_one (ok_Put_eq T)).or (eq_one (ok_Move_eq T))).or (eq_one (ok_Cut_eq T))).or (eq_one (ok_Lift_eq T))).or (eq_one (ok_Wrap_eq T))).or (eq_one (ok_Reverse_eq T))).or (eq_one (ok_SetValue_eq T))
theorem deed_in {K : PySem.W.Frag} {H : Hp} {a b : Addr} {D : FM.D Str} (ha : DeedAt K H a (encD D)) (hb : DeedAt K H b (encD D)) (hp : (encD D).args.all plainV = true) : DDeed K (.ref a) (.ref b) H := by
  have one : ∀ c : Str, (encD D).cls = c → DX K c (.ref a) (.ref b) H := fun c hc => by
    have r : EqR K c a b H := ⟨encD D, ha, hb, hc, hp⟩
    obtain ⟨dx, ha⟩ := ha
    obtain ⟨dy, hb⟩ := hb
    rw [hc] at ha hb
    exact ⟨a, b, dx, dy, _, _, rfl, rfl, ha, hb, r⟩
  cases D with
  | put n v p r => exact .inl (.inl (.inl (.inl (.inl (.inl (one _ rfl))))))
  | move n p r => exact .inl (.inl (.inl (.inl (.inl (.inr (one _ rfl))))))
  | cut n => exact .inl (.inl (.inl (.inl (.inr (one _ rfl)))))
  | lift n => exact .inl (.inl (.inl (.inr (one _ rfl))))
  | wrap n v p f l => exact .inl (.inl (.inr (one _ rfl)))
  | rev p => exact .inl (.inr (one _ rfl))
  | setv n v => exact .inr (one _ rfl)
theorem deeds_in {K : PySem.W.Frag} {H : Hp} : ∀ {xs ys : List V} {ds : Ds}, DsAt K H xs ds → DsAt K H ys ds → (∀ d ∈ ds, (encD d).args.all plainV = true) → Prs (DDeed K) xs ys H
  | [], [], [], _, _, _ => Prs.nil
  | _ :: _, _ :: _, d :: ds, ⟨⟨a, e1, h1⟩, h2⟩, ⟨⟨b, e2, h3⟩, h4⟩, hp => by
    subst e1 e2
    exact Prs.cons (deed_in h1 h3 (hp d List.mem_cons_self)) (deeds_in h2 h4 fun e he => hp e (List.mem_cons_of_mem _ he))
  | [], _ :: _, [], _, h, _ => h.elim
  | [], _, _ :: _, h, _, _ => h.elim
  | _ :: _, _, [], h, _, _ => h.elim
  | _ :: _, [], _ :: _, _, h, _ => h.elim
/-- list == of deeds -/
theorem deeds_eq {X : Cx} (T : Tx X.K X.mg) (hr : Room 3 X.A) : OpR X (compareOp .Eq) (rEqG (DList (DDeed X.K))) := op_eqG (rcG_list mon_deed (eq_deed T)) hr
end K13
end
section
set_option Elab.async false
set_option linter.all false
set_option maxRecDepth 100000
set_option maxHeartbeats 4000000
namespace K13
open PySem PySem.Spec PyProof.Rows L2 LamX
open Evl (Ex)
theorem cut_init {xs : List V} {v : V} : cutV (xs ++ [v]) none (some (-1)) = xs := by
  have hl : (xs ++ [v]).length = xs.length + 1 := by rw [List.length_append]; rfl
  have e : HT.sIx (xs ++ [v]).length (xs ++ [v]).length (some (-1)) = xs.length := by
    rw [hl]
    show (if (-1 : Int) < 0 then (-1 + ((xs.length + 1 : Nat) : Int)).toNat else min (-1 : Int).toNat (xs.length + 1)) = _
    rw [if_pos (by decide)]
    omega
  unfold cutV
  rw [e, HT.sIx_none, List.drop_zero, Nat.sub_zero, List.take_left]
def spBR (K : PySem.W.Frag) : Sp := fun vs H Q _ => ∃ p a rs D, vs = [.ref p, .ref a] ∧ ForestAt K H p rs ∧ Okf rs ∧ DeedAt K H a (encD D) ∧ FM.okD nmOk vvOk rs D ∧ ∀ H', Ex H H' → Q (.bl true) H'
section
variable {P : Program} {w : World} {K : PySem.W.Frag} {mg : Str → Option Value} {base : Heap}
/-- a deed that can be done, asked of undoing, of done -/
theorem rd_undo {E : XK} {p a : Addr} {rs : FM.Rows Str} {D : FM.D Str} {H : Hp} {Q : VK} (G : ForestAt K H p rs) (ok : Okf rs) (hd : DeedAt K H a (encD D)) (hD : FM.okD nmOk vvOk rs D) (q : NewD K (FM.undoD rs D) H Q) : spUndo K [.ref p, .ref a] H Q E := by
  refine ⟨p, rs, .ref a, some (encD D), rfl, G, ok, TH.deed hd (dok ok hD), fun wd hw => ?_, fun D' e hD' => ?_⟩
  · have : whyV rs (some (encD D)) = none := why_ok hD
    rw [this] at hw
    cases hw
  · rw [← encD_inj (Option.some.inj e)]
    exact q
theorem rd_done {E : XK} {p a : Addr} {rs : FM.Rows Str} {D : FM.D Str} {H : Hp} {Q : VK} (G : ForestAt K H p rs) (ok : Okf rs) (hd : DeedAt K H a (encD D)) (hD : FM.okD nmOk vvOk rs D) (q : NewF K (FM.doneD rs D) H Q) : spDone K [.ref p, .ref a] H Q E := by
  refine ⟨p, rs, .ref a, some (encD D), rfl, G, ok, TH.deed hd (dok ok hD), fun wd hw => ?_, fun D' e hD' => ?_⟩
  · have : whyV rs (some (encD D)) = none := why_ok hD
    rw [this] at hw
    cases hw
  · rw [← encD_inj (Option.some.inj e)]
    exact q
theorem ok_back_right (T : Tx K mg) : GFn P w K mg base "_law_back_right" CX0 10 ["_law_forest_so", "_law_deed_so"] (spBR K) := by
  obtain ⟨fd, F⟩ := T.d_law_back_right
  obtain ⟨fu, FU⟩ := T.d_undoing
  refine gfn T.g_law_back_right F (F.bindsN fun _ _ _ _ _ _ us hl => match us, hl with | [_, _], _ => rfl) (ok0 F sc_law_back_right (fun vs H Q E h => ?_) fun cdv A outer s H vs Q E hr h => ?_)
  · obtain ⟨p, a, rs, D, rfl, _⟩ := h; rfl
  · obtain ⟨p, a, rs, D, rfl, G, ok, hd, hD, q⟩ := h
    have nd := sc_law_back_right.nd
    refine ⟨_, pss_cons (ps_set (i := 2) nd rfl (.inl rfl) (pe_fld (pv 0) rfl))
      (pss_cons (ps_par (i := 3) (j := 4) rfl nd rfl rfl (by decide) rfl rfl (pa_cons (pe_g (ok_undoing T) hr passF (pa_cons (pv 0) (pa_cons (pv 1) pa_nil))) (pa_cons (pe_g (ok_done T) hr passF (pa_cons (pv 0) (pa_cons (pv 1) pa_nil))) pa_nil)) (by rfl))
      (pss_cons (ps_if (PW.pt (pw_or (pt_not (pt_val (pe_callB call_isi rfl T.z_isinstance b_isinstance (pa_cons (pv 3) (pa_cons (pe_bltn (v := .ty "list") rfl T.z_list b_list rfl) pa_nil))))) (pw_or (pt_cmpR op_gt (pe_callB call_len_seq rfl T.z_len b_len (pa_cons (pv 3) pa_nil)) pe_int (nomark _)) (pw_or1 (pt_cmpR (op_neD hr.units) (pe_fld (pv 0) rfl) (pv 2) (nomark _)))))) (pss_one (ps_ret pe_bl)) pss_nil)
      (pss_cons (ps_set (i := 5) nd rfl (.inl rfl) (pe_g (ok_played T) hr pass0 (pa_cons (pv 4) (pa_cons (pv 3) pa_nil))))
      (pss_cons (ps_if (PW.pt (pw_or (pt_cmpR (f_ne T (hr.mono (by decide))) (pe_ix ix_list (pv 5) (pe_un un_neg pe_int) (fun _ _ => rfl)) (pv 0) (nomark _)) (pw_or (pt_cmpR (f_ne T (hr.mono (by decide))) (pe_ix ix_list (pv 5) pe_int (fun _ _ => rfl)) (pv 4) (nomark _)) (pw_or1 (pt_cmpR op_ne (pe_callB call_len_seq rfl T.z_len b_len (pa_cons (pv 5) pa_nil)) (pe_op op_add (pe_callB call_len_seq rfl T.z_len b_len (pa_cons (pv 3) pa_nil)) pe_int) (nomark _)))))) (pss_one (ps_ret pe_bl)) pss_nil)
      (pss_cons (ps_expr (pe_bm PySem.F.plainAttrs_list PySem.F.slot_list_append PySem.F.type_list_append mt_append (pv 3) (pa_cons pe_non pa_nil)))
      (pss_cons (ps_set (i := 6) nd rfl (.inl rfl) (pe_callN0 (undoing_ok T FU) (hr.mono (by decide)) rfl T.g_undoing FU.kp (undo_kb FU) passF (pk_cons (pv 1) (pk_cons (pv 0) pk_nil))))
      (pss_one (ps_ret (pe_and (pe_cmpR (deeds_eq T (hr.mono (by decide))) (pv 6) (pe_slice sl_list (pv 3) po_none (po_some (pe_un un_neg pe_int))) (nomark _)) (pe_one (pe_cmpR (op_eqD hr.units) (pe_fld (pe_ix ix_list (pe_g (ok_played T) hr pass0 (pa_cons (pv 4) (pa_cons (pv 6) pa_nil))) (pe_un un_neg pe_int) (fun _ _ => rfl)) rfl) (pv 2) (nomark _)))))))))))), ?_⟩
    have okn := (FM.main ok hD).1
    have hpl := (FM.main ok hD).2
    have hul := FM.undo_len ok hD
    obtain ⟨dx, r, o, d, xs, hp, hr1, hR⟩ := ff_get G
    have rowsEq : PyData.eqv (rowsD rs) (rowsD rs) = true := by rw [rowsD_eqv]; exact decide_eq_true rfl
    refine ⟨_, rfl, p, _, dx, _, _, rfl, hp, T.cl_Forest, T.no_Forest_rows, ff_rows, ?_⟩
    refine ⟨_, rfl, _, rfl, rd_undo G ok hd hD fun l vs H1 hl e1 h1 hDs => ⟨_, rfl, _, rfl, rd_done (G.mono e1) ok (hd.mono e1) hD fun p2 H2 hp2 e12 hF2 => ⟨_, _, rfl, ?_⟩⟩⟩
    have e2 := e1.trans e12
    have h2 := e12 _ _ h1
    have hvl := hDs.len
    refine ⟨_, rfl, _, _, _, _, _, rfl, .ty "list", .base (.lst h2), kTT (by decide +kernel), _, rfl, iteF ⟨_, rfl, l, vs, rfl, .inl (SqL.of h2), _, _, rfl, rfl, _, rfl, iteDn (by omega) ?_⟩⟩
    refine ⟨_, rfl, p, _, dx, _, _, rfl, e2 _ _ hp, T.cl_Forest, T.no_Forest_rows, ff_rows, _, rfl, rowsD rs, rowsD rs, rowsD_dp (e2 _ _ hr1) (hR.mono e2), rowsD_dp (e2 _ _ hr1) (hR.mono e2), rowsD_shaped ok, rowsD_shaped ok, _, rfl, ?_⟩
    rw [rowsEq]
    refine iteF ⟨_, rfl, _, rfl, p2, FM.doneD rs D, l, vs, FM.undoD rs D, rs, rfl, hF2, okn, h2, hDs.mono e12, by omega, hpl, fun l5 ys q5 H3 hl5 e23 h3 hy h0 hF3 ok3 => ?_⟩
    have e3 := e2.trans e23
    obtain ⟨dx2, r2, o2, d2, xs2, hi2, _, _⟩ := ff_get (hF2.mono e23)
    obtain ⟨dx5, r5, o5, d5, xs5, hi5, hr5, hR5⟩ := ff_get hF3
    refine ⟨_, rfl, _, rfl, l5, _, -1, _, rfl, rfl, SqL.of h3, atI_last _ _, _, rfl, q5, p, dx5, dx, _, _, rfl, rfl, hi5, e3 _ _ hp, q5, p, rs, rs, rfl, hF3, G.mono e3, ok3, ok, _, rfl, _, rfl, iteND rfl ?_⟩
    refine ⟨_, rfl, l5, _, 0, .ref p2, rfl, rfl, SqL.of h3, atI_nat (j := 0) h0, _, rfl, p2, p2, dx2, dx2, _, _, rfl, rfl, hi2, hi2, p2, p2, _, _, rfl, hF2.mono e23, hF2.mono e23, okn, okn, _, rfl, _, rfl, iteND rfl ?_⟩
    have h23 := e23 _ _ h2
    refine ⟨_, rfl, l5, _, rfl, .inl (SqL.of h3), _, rfl, l, vs, rfl, .inl (SqL.of h23), _, _, rfl, rfl, rfl, _, rfl, iteND ?_ ?_⟩
    · rw [List.length_append, hy, ← hvl]
      rfl
    have hne5 : l5 ≠ l := fun z => by rw [z, h2] at hl5; cases hl5
    refine ⟨_, rfl, .inl ⟨rfl, _, SqL.of h23⟩, l, vs, _, rfl, rfl, h23, szLt (by omega), ?_⟩
    have h4 : upd H3 l (.lst (vs ++ [.non])) l = some (.lst (vs ++ [.non])) := upd_same
    have G4 : ForestAt K (upd H3 l (.lst (vs ++ [.non]))) p rs := (G.mono e3).updL h23
    have hF4 : ForestAt K (upd H3 l (.lst (vs ++ [.non]))) p2 (FM.doneD rs D) := (hF2.mono e23).updL h23
    have hd4 : DeedAt K (upd H3 l (.lst (vs ++ [.non]))) a (encD D) := (hd.mono e3).updL h23
    have hDs4 : DsAt K (upd H3 l (.lst (vs ++ [.non]))) vs (FM.undoD rs D) := (hDs.mono (e12.trans e23)).updL h23
    have hrr4 : upd H3 l (.lst (vs ++ [.non])) r = some (.tup xs) := by rw [upd_ne (ne_of (e3 _ _ hr1) h23 (by intro z; cases z))]; exact e3 _ _ hr1
    have hR4 : RowsAt (upd H3 l (.lst (vs ++ [.non]))) xs rs := (hR.mono e3).updL h23
    have e04 : Ex H (upd H3 l (.lst (vs ++ [.non]))) := e3.mut hl
    show tSeq _ _ _ _ (upd H3 l (.lst (vs ++ [.non])))
    generalize upd H3 l (.lst (vs ++ [.non])) = H4 at h4 G4 hF4 hd4 hDs4 hrr4 hR4 e04
    refine ⟨_, rfl, _, rfl, rfl, rfl, rd_undo G4 ok hd4 hD fun l6 vs6 H5 hl6 e45 h5 hDs5 => ?_⟩
    refine ⟨_, rfl, _, rfl, _, rfl, _, rfl, l, _, rfl, SqL.of (e45 _ _ h4), fun c hc => ?_⟩
    rw [cut_init]
    have e56 := Ex.new (o := .lst vs) hc
    refine ⟨⟨l6, c, vs6, vs, rfl, rfl, e56 _ _ h5, upd_same, deeds_in (hDs5.mono e56) (hDs4.mono (e45.trans e56)) (plays_plain okn hpl)⟩, fun H7 e67 => ⟨_, rfl, iteT ?_⟩⟩
    have e57 : Ex H5 H7 := e56.trans e67
    have e47 := e45.trans e57
    refine ⟨_, rfl, _, rfl, p2, FM.doneD rs D, l6, vs6, FM.undoD rs D, rs, rfl, hF4.mono e47, okn, e57 _ _ h5, hDs5.mono e57, by omega, hpl, fun l8 ys8 q8 H8 hl8 e78 h8 hy8 h08 hF8 ok8 => ?_⟩
    obtain ⟨dx8, r8, o8, d8, xs8, hi8, hr8, hR8⟩ := ff_get hF8
    have e48 := e47.trans e78
    refine ⟨_, rfl, l8, _, -1, _, rfl, rfl, SqL.of h8, atI_last _ _, q8, _, dx8, _, _, rfl, hi8, T.cl_Forest, T.no_Forest_rows, ff_rows, _, rfl, rowsD rs, rowsD rs, rowsD_dp hr8 hR8, rowsD_dp (e48 _ _ hrr4) (hR4.mono e48), rowsD_shaped ok, rowsD_shaped ok, ?_⟩
    rw [rowsEq]
    exact q _ (e04.trans e48)
end
end K13
end
section
set_option Elab.async false
set_option linter.all false
set_option maxRecDepth 100000
set_option maxHeartbeats 4000000
namespace K13
open PySem PySem.Spec PyProof.Rows L2 LamX
open Evl (Ex)
/-! ## what stays when a table, a list or the well is written -/
/-- all but lists and tables stay -/
def Mx (H H' : Hp) : Prop := ∀ b o, H b = some o → (∀ xs, o ≠ .lst xs) → (∀ ps, o ≠ .tbl ps) → H' b = some o
theorem Mx.of {H H' : Hp} (e : Ex H H') : Mx H H' := fun b o h _ _ => e b o h
theorem Mx.ofN {H H' : Hp} (e : ExtN H H') : Mx H H' := fun b o h _ n => e b o h n
theorem wx_keep {W : Addr} {w0 : List V} {H H' : Hp} (hW : H W = some (.lst w0)) (e : Wx W H H') : ∀ b o, H b = some o → (∀ xs, o ≠ .lst xs) → H' b = some o := fun b o h n =>
  (del_of (e b o (del_in h (fun z => by rw [z, hW] at h; exact n _ (Option.some.inj h).symm)))).1
theorem Mx.wx {W : Addr} {w0 : List V} {H H' : Hp} (hW : H W = some (.lst w0)) (e : Wx W H H') : Mx H H' := fun b o h n _ => wx_keep hW e b o h n
theorem RowAt.mx {H H' : Hp} (e : Mx H H') {v : V} {r : R} : RowAt H v r → RowAt H' v r := fun ⟨q, h1, h2⟩ => ⟨q, h1, e _ _ h2 (by intro _ z; cases z) (by intro _ z; cases z)⟩
theorem RowsAt.mx {H H' : Hp} (e : Mx H H') : ∀ {vs : List V} {rs : FM.Rows Str}, RowsAt H vs rs → RowsAt H' vs rs
  | [], [], _ => trivial
  | [], _ :: _, h => h.elim
  | _ :: _, [], h => h.elim
  | _ :: _, _ :: _, ⟨h1, h2⟩ => ⟨h1.mx e, RowsAt.mx e h2⟩
theorem ForestAt.mx {K : PySem.W.Frag} {H H' : Hp} (e : Mx H H') {p : Addr} {rs : FM.Rows Str} : ForestAt K H p rs → ForestAt K H' p rs := fun ⟨dx, r, o, d, vs, kvs, F⟩ =>
  ⟨dx, r, o, d, vs, kvs, e _ _ F.ins (by intro _ z; cases z) (by intro _ z; cases z), e _ _ F.rows (by intro _ z; cases z) (by intro _ z; cases z), F.at_.mx e, e _ _ F.order (by intro _ z; cases z) (by intro _ z; cases z), e _ _ F.spots (by intro _ z; cases z) (by intro _ z; cases z), F.val⟩
theorem DeedAt.mx {K : PySem.W.Frag} {H H' : Hp} (e : Mx H H') {a : Addr} {d : DV} : DeedAt K H a d → DeedAt K H' a d := fun ⟨dx, h⟩ => ⟨dx, e _ _ h (by intro _ z; cases z) (by intro _ z; cases z)⟩
theorem tabS_wx {W P : Addr} {w0 : List V} {H H' : Hp} {q : Str} (hW : H W = some (.lst w0)) (e : Wx W H H') : TabS H P q → TabS H' P q := by
  rintro ⟨ps, h1, h2, h3⟩
  refine ⟨ps, wx_keep hW e _ _ h1 (by intro _ z; cases z), h2, fun pos cv hc => ?_⟩
  obtain ⟨c, e1, e2⟩ := h3 pos cv hc
  refine ⟨c, e1, wx_keep hW e _ _ e2 (by intro xs z; unfold CodeO at z; cases z)⟩
theorem fieldOk.nx {H H' : Hp} (e : ExtN H H') : ∀ {v : V}, fieldOk H v → fieldOk H' v
  | .non, _ => trivial
  | .bl _, _ => trivial
  | .int _, _ => trivial
  | .str _, h => h
  | .ref a, ⟨xs, h⟩ => ⟨xs, e _ _ h (by intro _ z; cases z)⟩
theorem DOk.nx {H H' : Hp} (e : ExtN H H') {d : DV} : DOk H d → DOk H' d := fun ⟨a, b, c, d, f, g⟩ => ⟨a.nx e, b.nx e, c.nx e, d.nx e, f.nx e, g.nx e⟩
theorem WellAt.nx {H H' : Hp} {W : Addr} {c : Nat} (e : ExtN H H') : WellAt H W c → WellAt H' W c := fun ⟨a, b, k, h, r⟩ => ⟨a, b, k, e _ _ h (by intro _ z; cases z), r⟩
/-- the script's cells, the tables, the well -/
structure Sta (T : List (Addr × Str)) (lc : Addr) (cs : List V) (W : Addr) (c : Nat) (H : Hp) : Prop where
  ce : H lc = some (.lst cs)
  tb : Tabs T H
  wl : WellAt H W c
  ne : lc ≠ W
section
variable {T : List (Addr × Str)} {lc W : Addr} {cs : List V} {c d : Nat} {H H' : Hp}
theorem Sta.le (h : c ≤ d) (S : Sta T lc cs W c H) : Sta T lc cs W d H := ⟨S.ce, S.tb, S.wl.le h, S.ne⟩
theorem Sta.ex (e : Ex H H') (S : Sta T lc cs W c H) : Sta T lc cs W c H' := ⟨e _ _ S.ce, S.tb.ext e, S.wl.mono e, S.ne⟩
theorem Sta.wx (e : Wx W H H') (w : WellAt H' W d) (S : Sta T lc cs W c H) : Sta T lc cs W d H' := by
  obtain ⟨a, b, k, hW, _⟩ := S.wl
  exact ⟨(del_of (e _ _ (del_in S.ce S.ne))).1, fun p hp => tabS_wx hW e (S.tb p hp), w, S.ne⟩
theorem Sta.mx (e : Wx W H H') (S : Sta T lc cs W c H) : Mx H H' := by
  obtain ⟨a, b, k, hW, _⟩ := S.wl
  exact .wx hW e
theorem Sta.nx (e : ExtN H H') (t : Tabs T H') (S : Sta T lc cs W c H) : Sta T lc cs W c H' := ⟨e _ _ S.ce (by intro _ z; cases z), t, S.wl.nx e, S.ne⟩
theorem Sta.updL {l : Addr} {w0 ys : List V} (hl : H l = some (.lst w0)) (h1 : l ≠ lc) (h2 : l ≠ W) (S : Sta T lc cs W c H) : Sta T lc cs W c (upd H l (.lst ys)) :=
  ⟨by rw [upd_ne (Ne.symm h1)]; exact S.ce, fun p hp => tabS_wx hl Wx.put (S.tb p hp), S.wl.updN (Ne.symm h2), S.ne⟩
theorem Mx.updL {l : Addr} {w0 ys : List V} (hl : H l = some (.lst w0)) : Mx H (upd H l (.lst ys)) := .wx hl Wx.put
end
/-! ## a field set anew -/
theorem set_field {H : Hp} {d : DV} {i : Nat} {v : V} (h : i < d.args.length) (hd : DOk H d) (hv : fieldOk H v) : ∃ d' : DV, d'.args = d.args.set i v ∧ kindN d' = kindN d ∧ DOk H d' := by
  obtain ⟨h1, h2, h3, h4, h5, h6⟩ := hd
  cases d with
  | put a b c e => match i, h with
    | 0, _ => exact ⟨.put v b c e, rfl, rfl, hv, h2, h3, h4, h5, h6⟩
    | 1, _ => exact ⟨.put a v c e, rfl, rfl, h1, hv, h3, h4, h5, h6⟩
    | 2, _ => exact ⟨.put a b v e, rfl, rfl, h1, h2, hv, h4, h5, h6⟩
    | 3, _ => exact ⟨.put a b c v, rfl, rfl, h1, h2, h3, hv, h5, h6⟩
  | move a b c => match i, h with
    | 0, _ => exact ⟨.move v b c, rfl, rfl, hv, h2, h3, h4, h5, h6⟩
    | 1, _ => exact ⟨.move a v c, rfl, rfl, h1, h2, hv, h4, h5, h6⟩
    | 2, _ => exact ⟨.move a b v, rfl, rfl, h1, h2, h3, hv, h5, h6⟩
  | cut a => match i, h with
    | 0, _ => exact ⟨.cut v, rfl, rfl, hv, h2, h3, h4, h5, h6⟩
  | lift a => match i, h with
    | 0, _ => exact ⟨.lift v, rfl, rfl, hv, h2, h3, h4, h5, h6⟩
  | wrap a b c e f => match i, h with
    | 0, _ => exact ⟨.wrap v b c e f, rfl, rfl, hv, h2, h3, h4, h5, h6⟩
    | 1, _ => exact ⟨.wrap a v c e f, rfl, rfl, h1, hv, h3, h4, h5, h6⟩
    | 2, _ => exact ⟨.wrap a b v e f, rfl, rfl, h1, h2, hv, h4, h5, h6⟩
    | 3, _ => exact ⟨.wrap a b c v f, rfl, rfl, h1, h2, h3, h4, hv, h6⟩
    | 4, _ => exact ⟨.wrap a b c e v, rfl, rfl, h1, h2, h3, h4, h5, hv⟩
  | rev a => match i, h with
    | 0, _ => exact ⟨.rev v, rfl, rfl, h1, h2, hv, h4, h5, h6⟩
  | setv a b => match i, h with
    | 0, _ => exact ⟨.setv v b, rfl, rfl, hv, h2, h3, h4, h5, h6⟩
    | 1, _ => exact ⟨.setv a v, rfl, rfl, h1, hv, h3, h4, h5, h6⟩
/-- the first field is no number -/
theorem args_head (D : FM.D Str) : ∃ v vs, (encD D).args = v :: vs ∧ ∀ i : Int, v ≠ .int i := by
  cases D with
  | rev p => cases p with
    | none => exact ⟨_, _, rfl, by intro i z; cases z⟩
    | some n => exact ⟨_, _, rfl, by intro i z; cases z⟩
  | _ => exact ⟨_, _, rfl, by intro i z; cases z⟩
theorem args_cells {D : FM.D Str} {cs : List Int} (h : (encD D).args = iVs cs) : False := by
  obtain ⟨v, vs, e, n⟩ := args_head D
  rw [e] at h
  cases cs with
  | nil => cases h
  | cons a l => exact n a (List.cons.inj h).1
section
variable {P : Program} {w : World} {K : PySem.W.Frag} {mg : Str → Option Value} {base : Heap}
/-- a def whose code object is known -/
theorem okC {x qual : Str} {st : Stmt} {q : He.Defn} {fd : FuncData} {N ps : List Str} {k : Nat} {sp : Sp} (F : FunD K x qual (defArgs st) (defBody st) (defScope st) [] [] (He.fAd K q) fd) (S : FnScope N ps (defScope st)) (len : ∀ vs H Q E, sp vs H Q E → vs.length = ps.length)
    (hbody : ∀ (A : Around) (outer : List Env) (s : Shared) (H : Hp) (vs : List V) (Q : VK) (E : XK), Room k (A.deeper (envOfC qual (defScope st) s.heap.objs.size (He.fAd K q) (.ref (He.cT K q).1))) → sp vs H Q E →
      ∃ t, PSs (cxOf CX0 P w K mg base N qual (defScope st) (He.fAd K q) (.ref (He.cT K q).1) A outer s H E).nox (defBody st) t ∧ t { nx := fun _ H' => Q .non H', rt := Q } (start N vs) H) : FnOk P w K mg base CX0 (k + 1) (He.fAd K q) fd ps sp := by
  obtain ⟨oc, od, dV, kV, doc, pm, an, cdv, ct, osl, rfl, lk, hcd, _, _⟩ := F.ex
  obtain ⟨c, rfl⟩ := He.codeIn_ref hcd
  have e : (He.cT K q).1 = c := He.codeOf_eq lk rfl
  subst e
  exact fn_of lk hcd S len fun A outer s H vs Q E hr h => let ⟨t, h1, h2⟩ := hbody A outer s H vs Q E hr h; ⟨t, PSs.nox h1, h2⟩
end
section
variable {X : Cx} {Tb : List (Addr × Str)} {c P : Addr} {k : Nat} {params : Arguments} {body : Expr} {scope : Scope} {t : XK → TE} {p lpos pos : Pos}
/-- _law_why(lambda: body) -/
theorem pe_why (T : Tx X.K X.mg) (hg : Gl X "_law_why") (TB : TabB X.base X.mg c P) (hcode : X.env.code = .ref c) (hmT : (P, lamQ X) ∈ Tb) (hu : ∀ p ∈ Tb, p.1 = P → p.2 = lamQ X) (hr : Room (k + 2) X.A) (L : LamS X.env.scope scope) (hdef : defaultsOf params X.env = ([], []))
    (hbind : ∀ (q : Str) (cl : List (Str × Addr)) (pm cv ctv : Value), bindArgs (PySem.W.kla_fn "<lambda>" q params body scope cl pm cv ctv) ⟨[], []⟩ = pure [])
    (hbody : ∀ (A : Around) (outer : List Env) (s : Shared) (H : Hp) (E : XK) (f c' : Addr), Room k (A.deeper (lamEnv X scope s.heap.objs.size f c')) → PE (lamCx X A outer s H E scope f c') body (t E)) :
    PE X (.Call (.Name "_law_why" p) [.Lambda params body scope lpos] [] pos) (tLam Tb (TTwhy X.K) t) := by
  obtain ⟨fd, F⟩ := T.d_law_why
  have hb := F.bindsN (ps := ["_law_act"]) fun _ _ _ _ _ _ us hl => match us, hl with | [_], _ => rfl
  obtain ⟨oc, od, dV, kV, doc, pm, an, cdv, ct, osl, rfl, lk, hcd, _, _⟩ := F.ex
  exact pe_lamcall hg T.g_law_why F.kp lk hcd hb sc_law_why rfl (.inl rfl) (why_gives T) TB hcode hmT hu hr L hdef hbind hbody
/-- _law_why(lambda y=j: body) -/
theorem pe_whyD {y : Str} {j : Int} {dk : Nat} {dp : Pos} (T : Tx X.K X.mg) (hg : Gl X "_law_why") (TB : TabB X.base X.mg c P) (hcode : X.env.code = .ref c) (hmT : (P, lamQ X) ∈ Tb) (hu : ∀ p ∈ Tb, p.1 = P → p.2 = lamQ X) (hr : Room (k + 2) X.A) (L : LamD X.N X.env.scope scope)
    (hdf : params.defaults = [.Constant (.int j) dk dp]) (hkd : params.kw_defaults = []) (hB : DefB params body scope y j) (hy : scope.names.lookup y = some .local)
    (hbody : ∀ (A : Around) (outer : List Env) (s : Shared) (H : Hp) (E : XK) (f c' : Addr), Room k (A.deeper (lamEnv X scope s.heap.objs.size f c')) → PE (lamCx X A outer s H E scope f c') body (t E)) :
    PE X (.Call (.Name "_law_why" p) [.Lambda params body scope lpos] [] pos) (tLam Tb (TTwhy X.K) t) := by
  obtain ⟨fd, F⟩ := T.d_law_why
  have hb := F.bindsN (ps := ["_law_act"]) fun _ _ _ _ _ _ us hl => match us, hl with | [_], _ => rfl
  obtain ⟨oc, od, dV, kV, doc, pm, an, cdv, ct, osl, rfl, lk, hcd, _, _⟩ := F.ex
  exact pe_lamcallD hg T.g_law_why F.kp lk hcd hb sc_law_why rfl (.inl rfl) (why_gives T) TB hcode hmT hu hr L hdf hkd hB hy hbody
end
end K13
end
section
set_option Elab.async false
set_option linter.all false
set_option maxRecDepth 100000
set_option maxHeartbeats 4000000
namespace K13
open PySem PySem.Spec PyProof.Rows L2 LamX
open Evl (Ex)
/-! ## the wide forest -/
def nW (k : Nat) : Str := "n" ++ Str.ofString (toString ((k : Nat) : Int))
def wideR (k : Nat) : R := ⟨nW k, (k : Nat), if 0 < k then 1 else 0⟩
def wideF (n : Nat) : FM.Rows Str := (List.range n).map wideR
def lvB : Int → List Int → Bool
  | _, [] => true
  | a, l :: ls => decide (0 ≤ l) && (decide (l ≤ a + 1) && lvB l ls)
theorem lvB_ok : ∀ {ls : List Int} {a : Int}, lvB a ls = true → Lv a ls
  | [], _, _ => trivial
  | _ :: _, _, h => ⟨of_decide_eq_true (He.ba h).1, of_decide_eq_true (He.ba (He.ba h).2).1, lvB_ok (He.ba (He.ba h).2).2⟩
theorem wide_nm : ∀ q ∈ FM.keys (wideF 60), nameOk q.1 = true := by decide +kernel
theorem wide_vv : ∀ q ∈ FM.keys (wideF 60), -MV ≤ q.2 ∧ q.2 ≤ MV := by decide +kernel
theorem wide_ok : Okf (wideF 60) := ⟨lv_steps (lvB_ok (by decide +kernel)), ⟨by decide +kernel, wide_nm, wide_vv, by decide +kernel⟩⟩
theorem wide_snoc (i : Nat) : wideF (i + 1) = wideF i ++ [wideR i] := by unfold wideF; rw [List.range_succ, List.map_append]; rfl
theorem wide_n0 : ("n0" : Str) ∈ FM.names (wideF 60) := by decide +kernel
theorem nW_ok : ∀ k ∈ List.range 60, (nW k).length ≤ 8 := by decide +kernel
theorem nil_ok : Okf [] := ⟨trivial, ⟨List.nodup_nil, (fun q h => by cases h), (fun q h => by cases h), Nat.zero_le _⟩⟩
theorem put_ok : FM.okD nmOk vvOk ([] : FM.Rows Str) (.put "a" 1 none 0) := ⟨(by decide +kernel : nameOk "a" = true), (by decide +kernel : -MV ≤ 1 ∧ (1 : Int) ≤ MV), (fun n h => by cases h), (fun h => by cases h), Nat.zero_le _, by decide⟩
/-! ## law: the lambdas -/
section
variable {P : Program} {w : World} {K : PySem.W.Frag} {mg : Str → Option Value} {base : Heap} {A : Around} {outer : List Env} {s : Shared} {H : Hp} {E : XK}
/-- law's context -/
abbrev lawX (P : Program) (w : World) (K : PySem.W.Frag) (mg : Str → Option Value) (base : Heap) (A : Around) (outer : List Env) (s : Shared) (H : Hp) (E : XK) : Cx :=
  (cxOf CX0 P w K mg base N_law "law" (defScope st_law) (He.fAd K ("law", none)) (.ref (He.cT K ("law", none)).1) A outer s H E).nox
abbrev lawTb (K : PySem.W.Frag) : List (Addr × Str) := [((He.cT K ("law", none)).2, "law.<locals>." ++ "<lambda>")]
theorem takes_lam {X : Cx} {A : Around} {outer : List Env} {s : Shared} {H : Hp} {E : XK} {scope : Scope} {f c' : Addr} : Takes (lamCx X A outer s H E scope f c') (fun cls d _ H => E cls d H) := takes_of rfl rfl rfl rfl
end
end K13
end
section
set_option Elab.async false
set_option linter.all false
set_option maxRecDepth 100000
set_option maxHeartbeats 4000000
namespace K13
open PySem PySem.Spec PyProof.Rows L2 LamX
open Evl (Ex)
theorem mk_forestR {K : PySem.W.Frag} {H : Hp} {b : Bool} {a : Addr} {xs : List V} {rs : FM.Rows Str} {R : Addr → Hp → Prop} {E : XK} (h : Sk b H a xs) (hR : RowsAt H xs rs) (ok : Okf rs) (q : ∀ p H', H p = none → Ex H H' → ForestAt K H' p rs → R p H') :
    ∀ x dx, H x = none → H dx = none → dx ≠ x → spInit K (.ref x :: ([.ref a] ++ [])) (upd (upd H dx (.own x)) x (.ins (CF K) dx [])) (fun v H2 => v = .non ∧ R x H2) E := fun x dx hx hd hne => by
  have e : Ex H (upd (upd H dx (.own x)) x (.ins (CF K) dx [])) := new_ex hx hd
  exact ⟨x, dx, b, a, xs, rs, rfl, upd_same, e _ _ h, hR.mono e, ok, fun H' hb hF => ⟨rfl, q x H' hx (fun b' o ho => hb b' o (ne_of_none ho hx) (e _ _ ho)) hF⟩⟩
theorem args_len (d : DV) : d.args.length ≤ 5 := by cases d <;> simp [DV.args]
theorem fieldOk.updL {H : Hp} {l : Addr} {ys : List V} : ∀ {v : V}, fieldOk H v → fieldOk (upd H l (.lst ys)) v
  | .non, _ => trivial
  | .bl _, _ => trivial
  | .int _, _ => trivial
  | .str _, h => h
  | .ref a, ⟨xs, h⟩ => by
    by_cases e : a = l
    · exact ⟨ys, by rw [e, upd_same]⟩
    · exact ⟨xs, by rw [upd_ne e]; exact h⟩
/-- what _law_why answers -/
def wordR (rs : FM.Rows Str) (o : Option DV) : V := match whyV rs o with
  | none => .non
  | some wd => .str wd
theorem wordR_some {rs : FM.Rows Str} {o : Option DV} {wd : Str} (h : whyV rs o = some wd) : wordR rs o = .str wd := by unfold wordR; rw [h]
theorem wordR_none {rs : FM.Rows Str} {o : Option DV} (h : whyV rs o = none) : wordR rs o = .non := by unfold wordR; rw [h]
theorem word_scal {rs : FM.Rows Str} {o : Option DV} : scal (wordR rs o) (wordR rs o) = true := by
  unfold wordR
  split <;> rfl
theorem undo_why {K : PySem.W.Frag} {σ : L2.St} {H : Hp} {p : Addr} {rs : FM.Rows Str} {x : V} {o : Option DV} {Q : VK} (h4 : σ[4]? = some (some (.ref p))) (h9 : σ[9]? = some (some x)) (G : ForestAt K H p rs) (ok : Okf rs) (th : TH K H x o) (q : ∀ H', Ex H H' → Q (wordR rs o) H') :
    TTwhy K (fun E H' Q' => tCall (spUndo K) [] E (tCons (tVar 4) (tCons (tVar 9) tNil)) σ H' Q') H Q := by
  refine ⟨_, h4, _, h9, p, rs, x, o, rfl, G, ok, th, fun wd hw d H' e1 hd h2 => ⟨rfl, d, wd, rfl, h2, ?_⟩, fun D e hD l vs H' hl e1 h1 h2 => ?_⟩
  · rw [← wordR_some hw]
    exact q H' e1
  · have := q H' e1
    rw [e, wordR_none (o := some (encD D)) (why_ok hD)] at this
    exact this
theorem done_why {K : PySem.W.Frag} {σ : L2.St} {H : Hp} {p : Addr} {rs : FM.Rows Str} {x : V} {o : Option DV} {Q : VK} (h4 : σ[4]? = some (some (.ref p))) (h9 : σ[9]? = some (some x)) (G : ForestAt K H p rs) (ok : Okf rs) (th : TH K H x o) (q : ∀ H', Ex H H' → Q (wordR rs o) H') :
    TTwhy K (fun E H' Q' => tCall (spDone K) [] E (tCons (tVar 4) (tCons (tVar 9) tNil)) σ H' Q') H Q := by
  refine ⟨_, h4, _, h9, p, rs, x, o, rfl, G, ok, th, fun wd hw d H' e1 hd h2 => ⟨rfl, d, wd, rfl, h2, ?_⟩, fun D e hD l H' hl e1 h2 => ?_⟩
  · rw [← wordR_some hw]
    exact q H' e1
  · have := q H' e1
    rw [e, wordR_none (o := some (encD D)) (why_ok hD)] at this
    exact this
def spLaw (K : PySem.W.Frag) : Sp := fun vs H Q _ => ∃ (a : Addr) (ns : List Int), vs = [.ref a] ∧ SqL K H a (iVs ns) ∧ ns.length ≤ 1000 ∧ H (He.cT K ("law", none)).2 = some (.tbl #[]) ∧ ∀ H', Q (.bl true) H'
section
variable {P : Program} {w : World} {K : PySem.W.Frag} {mg : Str → Option Value} {base : Heap}
theorem ok_law (T : Tx K mg) (TB : TabB base mg (He.cT K ("law", none)).1 (He.cT K ("law", none)).2) {fd : FuncData} (F : FunD K "law" "law" (defArgs st_law) (defBody st_law) (defScope st_law) [] [] (He.fAd K ("law", none)) fd) : FnOk P w K mg base CX0 12 (He.fAd K ("law", none)) fd ["_law_script"] (spLaw K) := by
  refine okC F sc_law (fun vs H Q E h => ?_) fun A outer s H vs Q E hr h => ?_
  · obtain ⟨a, ns, rfl, _⟩ := h; rfl
  · obtain ⟨a, ns, rfl, ha, hn, htab, q⟩ := h
    have nd := sc_law.nd
    refine ⟨_, Evl.pss_cut (ps_for PassesOwn.never rfl (pi_seqA (pe_slice sl_list (pe_op op_catF (pv 0) (pe_lst (pa_cons pe_int pa_nil))) po_none (po_some pe_int))) (pg_name (i := 1) nd rfl (.inl rfl))
        (pss_cons (ps_set (i := 2) nd rfl (.inl rfl) (pe_g (ok_well T) hr pass0 (pa_cons (pv 1) pa_nil)))
        (pss_cons (ps_set (i := 3) nd rfl (.inl rfl) (pe_g (ok_lrows T) hr pass0 (pa_cons (pv 2) (pa_cons (pe_g (ok_one T) hr pass0 (pa_cons (pv 2) (pa_cons (pe_lst (pa_cons pe_int (pa_cons pe_int (pa_cons pe_int pa_nil)))) pa_nil))) pa_nil))))
        (pss_cons (ps_set (i := 4) nd rfl (.inr rfl) (pe_k (ok_Forest_init T) hr pass0 (pa_cons (pv 3) pa_nil)))
        (Evl.pss_cut (ps_for PassesOwn.never rfl (pi_range1 rfl T.z_range (pa_cons pe_int pa_nil)) (pg_name (i := 5) nd rfl (.inl rfl))
          (pss_one (ps_if (pt_cmpR op_gt (pe_callB (f_len T (hr.mono (by decide))) rfl T.z_len b_len (pa_cons (pv 4) pa_nil)) pe_int (nomark _))
            (Evl.pss_cut (ps_asg (pe_g (ok_drawn T) hr pass0 (pa_cons (pv 2) (pa_cons (pe_callTy call_list_of rfl T.z_list b_list (pa_cons (pe_fld (pv 4) rfl) pa_nil)) pa_nil))) (pg_tup rfl (pgs_cons (pg_name (i := 6) nd rfl (.inl rfl)) (pgs_cons (pg_name (i := 7) nd rfl (.inl rfl)) pgs_nil))))
            (pss_cons (ps_set (i := 8) nd rfl (.inl rfl) (pe_g (ok_ldeed T) hr pass0 (pa_cons (pv 6) (pa_cons (pv 7) pa_nil))))
            (pss_cons (ps_if (pt_not (pt_val (pe_g (ok_back_right T) hr pass0 (pa_cons (pv 4) (pa_cons (pv 8) pa_nil))))) (pss_one (ps_ret pe_bl)) pss_nil)
            (Evl.pss_cut (ps_asg (pe_g (ok_one T) hr pass0 (pa_cons (pv 2) (pa_cons (pe_lst (pa_cons pe_non (pa_cons pe_str (pa_cons pe_str (pa_cons (pe_un un_neg pe_int) (pa_cons pe_bl (pa_cons (pe_op op_pow pe_int pe_int) (pa_cons (pe_lst pa_nil) pa_nil)))))))) pa_nil))) (pg_sub (pv 7) (pe_g (ok_draw T) hr pass0 (pa_cons (pv 2) (pa_cons (pe_callB call_len_seq rfl T.z_len b_len (pa_cons (pv 7) pa_nil)) pa_nil))) set_list))
            (pss_cons (ps_set (i := 9) nd rfl (.inr rfl) (pe_g (ok_ldeed T) hr pass0 (pa_cons (pv 6) (pa_cons (pv 7) pa_nil))))
            (pss_cons (ps_if (pt_cmpR op_ne
                (pe_why (k := 9) (Tb := lawTb K) (t := fun E => tCall (spUndo K) [] E (tCons (tVar 4) (tCons (tVar 9) tNil))) T rfl TB rfl (List.mem_singleton.mpr rfl) (fun p hp _ => by rw [List.mem_singleton.mp hp]; rfl) hr (lamS_by (sc := defScope st_law) (by decide +kernel)) rfl (fun _ _ _ _ _ => rfl) (fun A outer s H E f c' hr2 => pe_g (ok_undoing T) hr2 (passes_call takes_lam fun _ _ _ _ h => h) (pa_cons (pv 4) (pa_cons (pv 9) pa_nil))))
                (pe_whyD (k := 9) (Tb := lawTb K) (t := fun E => tCall (spDone K) [] E (tCons (tVar 4) (tCons (tVar 9) tNil))) (y := "_law_of") (j := 0) T rfl TB rfl (List.mem_singleton.mpr rfl) (fun p hp _ => by rw [List.mem_singleton.mp hp]; rfl) hr (lamD_by (N := N_law) (sc := defScope st_law) (by decide +kernel)) rfl rfl (fun _ _ _ _ _ _ _ _ _ h => BindsTo.of_defaults rfl h rfl rfl rfl) rfl (fun A outer s H E f c' hr2 => pe_g (ok_done T) hr2 (passes_call takes_lam fun _ _ _ _ h => h) (pa_cons (pv 4) (pa_cons (pv 9) pa_nil)))) (nomark _)) (pss_one (ps_ret pe_bl)) pss_nil)
            (pss_one (ps_if (pt_cmpR op_eq (pe_g (ok_draw T) hr pass0 (pa_cons (pv 2) (pa_cons pe_int pa_nil))) pe_int (nomark _)) (pss_one (ps_set (i := 4) nd rfl (.inr rfl) (pe_g (ok_done T) hr passF (pa_cons (pv 4) (pa_cons (pv 8) pa_nil))))) pss_nil)))))))) pss_nil)))
        (pss_one (ps_for PassesOwn.never rfl (pi_seqA (pe_lst (pa_cons pe_non (pa_cons pe_int (pa_cons pe_str (pa_cons (pe_lst pa_nil) (pa_cons (pv 4) pa_nil))))))) (pg_name (i := 9) nd rfl (.inr rfl))
          (pss_one (ps_if (pt_cmpR op_ne (pe_why (k := 9) (Tb := lawTb K) (t := fun E => tCall (spUndo K) [] E (tCons (tVar 4) (tCons (tVar 9) tNil))) T rfl TB rfl (List.mem_singleton.mpr rfl) (fun p hp _ => by rw [List.mem_singleton.mp hp]; rfl) hr (lamS_by (sc := defScope st_law) (by decide +kernel)) rfl (fun _ _ _ _ _ => rfl) (fun A outer s H E f c' hr2 => pe_g (ok_undoing T) hr2 (passes_call takes_lam fun _ _ _ _ h => h) (pa_cons (pv 4) (pa_cons (pv 9) pa_nil)))) pe_str (nomark _)) (pss_one (ps_ret pe_bl)) pss_nil)))))))))
      (Evl.pss_cut (ps_set (i := 10) nd rfl (.inl rfl) (pe_k (ok_Forest_init T) hr pass0 (pa_cons (pe_lc (own := [("_law_k", 11)]) (g := gName 11) (tt := tYes) rfl nd (pi_range1 rfl T.z_range (pa_cons pe_int pa_nil)) (blkOk_by (N := N_law) (sc := defScope st_law) (by decide +kernel)) (fun _ _ _ _ _ => pg_name (i := 11) nd rfl (.inl rfl)) (fun _ _ _ _ _ => pts_nil)
          (fun _ _ _ _ _ => pe_tup (pa_cons (pe_op op_add_str pe_str (pe_callTy call_str_int rfl T.z_str b_str (pa_cons (pv 11) pa_nil))) (pa_cons (pv 11) (pa_cons (pe_callTy call_int1 rfl T.z_int b_int (pa_cons (pe_cmpR op_gt (pv 11) pe_int (nomark _)) pa_nil)) pa_nil))))) pa_nil)))
      (pss_cons (ps_if (PW.pt (pw_or (pt_cmpR (f_ne T (hr.mono (by decide))) (pe_ix ix_list (pe_g (ok_played T) hr pass0 (pa_cons (pe_g (ok_done T) hr passF (pa_cons (pv 10) (pa_cons (pe_k (ok_Cut_init T) hr pass0 (pa_cons pe_str pa_nil)) pa_nil))) (pa_cons (pe_g (ok_undoing T) hr passF (pa_cons (pv 10) (pa_cons (pe_k (ok_Cut_init T) hr pass0 (pa_cons pe_str pa_nil)) pa_nil))) pa_nil))) (pe_un un_neg pe_int) (fun _ _ => rfl)) (pv 10) (nomark _))
          (pw_or1 (pt_cmpR op_gt (pe_callB call_len_seq rfl T.z_len b_len (pa_cons (pe_g (ok_undoing T) hr passF (pa_cons (pv 10) (pa_cons (pe_k (ok_Cut_init T) hr pass0 (pa_cons pe_str pa_nil)) pa_nil))) pa_nil)) pe_int (nomark _))))) (pss_one (ps_ret pe_bl)) pss_nil)
      (pss_one (ps_ret (pe_cmpR (op_neLen (Nat.lt_of_le_of_lt (Nat.le_add_right _ 64) hr.units)) (pe_g (ok_undoing T) hr passF (pa_cons (pe_k (ok_Forest_init T) hr pass0 (pa_cons (pe_lst pa_nil) pa_nil)) (pa_cons (pe_k (ok_Put_init T) hr pass0 (pa_cons pe_str (pa_cons pe_int (pa_cons pe_non (pa_cons pe_int pa_nil))))) pa_nil))) (pe_lst pa_nil) (nomark _)))))), ?_⟩
    let Sx : Option V → Option V → Option V → Option V → Option V → Option V → Option V → Option V → Option V → L2.St := fun x1 x2 x3 x4 x5 x6 x7 x8 x9 => [some (.ref a), x1, x2, x3, x4, x5, x6, x7, x8, x9, none, none]
    refine ⟨fun σ H' => ∃ x1 x2 x3 x4 x5 x6 x7 x8 x9, σ = Sx x1 x2 x3 x4 x5 x6 x7 x8 x9, ?_, ?_⟩
    · refine ⟨_, rfl, (by show 1 ≤ sizeLine; decide), fun z hz => ⟨a, z, iVs ns, [.int 0], rfl, rfl, SqL.ext ha (Ex.new hz), SqL.of upd_same, (by rw [iVs_len]; exact Nat.le_of_lt (szLt (by show ns.length + 1 < 100000; omega))), fun p hp => ?_⟩⟩
      have e1 := (Ex.new (o := .lst [V.int 0]) hz).trans (Ex.new (o := .lst (iVs ns ++ [V.int 0])) hp)
      have h1 : upd (upd H z (.lst [V.int 0])) p (.lst (iVs ns ++ [V.int 0])) p = some (.lst (iVs ns ++ [V.int 0])) := upd_same
      have tb1 : Tabs (lawTb K) (upd (upd H z (.lst [V.int 0])) p (.lst (iVs ns ++ [V.int 0]))) := fun q hq => by
        rw [List.mem_singleton.mp hq]
        exact TabS.nil (e1 _ _ htab)
      generalize upd (upd H z (.lst [V.int 0])) p (.lst (iVs ns ++ [V.int 0])) = H1 at e1 h1 tb1
      refine ⟨3, rfl, p, _, rfl, SqL.of h1, fun lc hlc => ?_⟩
      have ec : cutV (iVs ns ++ [V.int 0]) none (some 3) = iVs ((ns ++ [0]).take 3) := by
        rw [show (3 : Int) = ((3 : Nat) : Int) from rfl, cut_take, ← iVs_snoc]
        exact (List.map_take ..).symm
      rw [ec]
      generalize (ns ++ [0]).take 3 = cs
      have e2 := Ex.new (o := .lst (iVs cs)) hlc
      have hlc2 : upd H1 lc (.lst (iVs cs)) lc = some (.lst (iVs cs)) := upd_same
      have tb2 := tb1.ext e2
      generalize upd H1 lc (.lst (iVs cs)) = H2 at e2 hlc2 tb2
      refine ⟨lc, true, _, rfl, Sk.l hlc2, fun J S => for_sk S (fun i σ H' => (∃ x1 x2 x3 x4 x5 x6 x7 x8 x9, σ = Sx x1 x2 x3 x4 x5 x6 x7 x8 x9) ∧ H' lc = some (.lst (iVs cs)) ∧ Tabs (lawTb K) H') ⟨⟨_, _, _, _, _, _, _, _, _, rfl⟩, hlc2, tb2⟩ (fun i σ H' h => Sk.l h.2.1) ?_ fun σ H' h => h.1⟩
      rintro i x σ H3 hx ⟨⟨x1, x2, x3, x4, x5, x6, x7, x8, x9, rfl⟩, hlc3, tb3⟩
      obtain ⟨c, rfl⟩ : ∃ c, x = V.int c := by
        rw [List.getElem?_map] at hx
        cases hc : cs[i]? with
        | none => rw [hc] at hx; cases hx
        | some c => rw [hc] at hx; exact ⟨c, (Option.some.inj hx).symm⟩
      refine ⟨_, rfl, c, rfl, fun W hW H4 e34 w4 => ?_⟩
      have S4 : Sta (lawTb K) lc (iVs cs) W 0 H4 := ⟨e34 _ _ hlc3, tb3.ext e34, w4, fun z => by rw [← z, hlc3] at hW; cases hW⟩
      refine ⟨_, rfl, _, rfl, (by show 3 ≤ sizeLine; decide), fun l hl => ⟨W, 0, _, rfl, w4.new hl, by omega, .inl ⟨l, _, rfl, del_in upd_same (w4.np hl), (by intro z; cases z), (by show 3 ≤ 1000; decide), fun v H5 e45 w5 hv => ?_⟩⟩⟩
      have S5 := (S4.ex (Ex.new hl)).wx e45 w5
      obtain ⟨m, rfl, hm⟩ : ∃ m : Nat, v = V.int ((m : Nat) : Int) ∧ m ≤ 30 := by
        simp only [List.mem_cons, List.not_mem_nil, or_false] at hv
        rcases hv with rfl | rfl | rfl
        · exact ⟨4, rfl, by decide⟩
        · exact ⟨12, rfl, by decide⟩
        · exact ⟨30, rfl, by decide⟩
      refine ⟨W, m, 1, rfl, w5.le (by omega), by omega, hm, fun v H6 e56 w6 hv => ?_⟩
      obtain ⟨l2, ws, rs0, rfl, hl2, hR, ok0', h30⟩ := hv
      have S6 := S5.wx e56 w6
      refine ⟨_, rfl, ?_⟩
      dsimp only [tNil]
      refine mk_forestR (K := K) (Sk.l (del_of hl2).1) (hR.mono ex_del) ok0' fun p0 H7 hp0 e67 hF0 => ?_
      have S7 := S6.ex e67
      clear e45 e56 e67 hR hl2 S4 S5 S6 w4 w5 w6 e34
      let PF : Nat → L2.St → Hp → Prop := fun c σ H' => ∃ p rs x1 x3 x5 x6 x7 x8 x9, σ = Sx x1 (some (.ref W)) x3 (some (.ref p)) x5 x6 x7 x8 x9 ∧ Sta (lawTb K) lc (iVs cs) W c H' ∧ ForestAt K H' p rs ∧ Okf rs
      refine ⟨PF 10000, ?_, ?_⟩
      · refine ⟨_, rfl, by decide, by decide, ?_⟩
        refine for_range (lo := 0) (n := 6) (fun i σ H' => PF (2001 + 1100 * i) σ H') ⟨p0, rs0, _, _, _, _, _, _, _, rfl, S7.le (by omega), hF0, ok0'⟩ ?_ (fun σ H' ⟨p, rs, x1, x3, x5, x6, x7, x8, x9, h1, h2, h3⟩ => ⟨p, rs, x1, x3, x5, x6, x7, x8, x9, h1, h2.le (by omega), h3⟩)
        clear hF0 S7 ok0' hp0
        rintro i σ H8 hi ⟨p, rs, x1, x3, x5, x6, x7, x8, x9, rfl, S8, hF, ok⟩
        obtain ⟨dx, r, o, d, xs, hp, hr1, hR⟩ := ff_get hF
        have h60 := ok.len
        refine ⟨_, rfl, p, dx, _, rfl, hp, p, rs, rfl, hF, ok, _, rfl, by omega, by omega, _, _, rfl, rfl, _, rfl, ?_⟩
        by_cases h0 : (0 : Int) < ((rs.length : Nat) : Int)
        · refine iteD h0 ?_
          have hne : rs ≠ [] := fun z => by rw [z] at h0; exact absurd h0 (by decide)
          refine ⟨fun σ H' => ∃ fa D, σ = Sx x1 (some (.ref W)) x3 (some (.ref p)) (some (.int (0 + (i : Nat)))) (some (.int ((kindN (encD D) : Nat) : Int))) (some (.ref fa)) x8 x9 ∧ Sta (lawTb K) lc (iVs cs) W (2001 + 1100 * i + 1000) H' ∧ ForestAt K H' p rs ∧ H' fa = some (.lst (encD D).args) ∧ fa ≠ W ∧ FM.okD nmOk vvOk rs D, ?_, ?_⟩
          · refine ⟨_, rfl, _, rfl, p, _, dx, _, _, rfl, hp, T.cl_Forest, T.no_Forest_rows, ff_rows, r, xs, rfl, .inr (SqT.of hr1), fun l hl => ?_⟩
            have wl := S8.wl.new (o := .lst xs) hl
            obtain ⟨wa, wb, wk, hWl, _⟩ := id wl
            refine ⟨W, l, xs, rs, _, rfl, wl, by omega, del_in upd_same (S8.wl.np hl), (hR.mono (Ex.new hl)).del hWl, ok, hne, fun v H9 e9 w9 hv => ?_⟩
            obtain ⟨t, fa, D, rfl, ht, hfa, hD⟩ := hv
            have S9 := (S8.ex (Ex.new hl)).wx e9 w9
            have m9 := (S8.ex (Ex.new hl)).mx e9
            obtain ⟨hfa, hfW⟩ := del_of hfa
            exact ⟨_, _, rfl, SqT.of ht, rfl, _, _, rfl, _, _, rfl, rfl, fa, D, rfl, S9.le (by omega), (hF.mono (Ex.new hl)).mx m9, hfa, hfW, hD⟩
          rintro σ H9 ⟨fa, D, rfl, S9, hF9, hfa, hfW, hD⟩
          refine ⟨_, rfl, _, rfl, fa, encD D, rfl, hfa, fun y H10 hy e10 hd10 => ?_⟩
          refine ⟨_, rfl, _, rfl, p, y, rs, D, rfl, hF9.mono e10, ok, hd10, hD, fun H11 e11 => ⟨_, rfl, iteF ?_⟩⟩
          have hF11 := (hF9.mono e10).mono e11
          have hd11 := hd10.mono e11
          have S11 := (S9.ex e10).ex e11
          have hfa11 := e11 _ _ (e10 _ _ hfa)
          clear hd10 hF9 S9 hfa e10 e11 hy
          refine ⟨fun σ H' => ∃ d, σ = Sx x1 (some (.ref W)) x3 (some (.ref p)) (some (.int (0 + (i : Nat)))) (some (.int ((kindN d : Nat) : Int))) (some (.ref fa)) (some (.ref y)) x9 ∧ Sta (lawTb K) lc (iVs cs) W (2001 + 1100 * i + 1002) H' ∧ ForestAt K H' p rs ∧ H' fa = some (.lst d.args) ∧ DOk H' d ∧ DeedAt K H' y (encD D), ?_, ?_⟩
          · refine ⟨_, rfl, _, rfl, _, _, rfl, rfl, ⟨by decide, by decide, by decide⟩, Nat.zero_le _, fun g hg => ⟨(by show 7 ≤ sizeLine; decide), fun l hl => ⟨W, _, _, rfl, (S11.wl.new hg).new hl, by omega, .inl ⟨l, _, rfl, del_in upd_same ((S11.wl.new hg).np hl), (by intro z; cases z), (by show 7 ≤ 1000; decide), fun v H12 e12 w12 hv => ?_⟩⟩⟩⟩
            have hgW := S11.wl.np hg
            have S12 := ((S11.ex (Ex.new hg)).ex (Ex.new hl)).wx e12 w12
            have m12 := ((S11.ex (Ex.new hg)).ex (Ex.new hl)).mx e12
            have hg12 : del H12 W g = some (.lst []) := e12 _ _ (del_in (Ex.new hl _ _ upd_same) hgW)
            have hfa12 := (del_of (e12 _ _ (del_in (Ex.new hl _ _ (Ex.new hg _ _ hfa11)) hfW))).1
            have hF12 := ((hF11.mono (Ex.new hg)).mono (Ex.new hl)).mx m12
            have hd12 := ((hd11.mono (Ex.new hg)).mono (Ex.new hl)).mx m12
            have hv12 : fieldOk (del H12 W) v := by
              simp only [List.mem_cons, List.not_mem_nil, or_false] at hv
              rcases hv with rfl | rfl | rfl | rfl | rfl | rfl | rfl
              · trivial
              · exact (by decide : ("A" : Str).length ≤ 100000)
              · exact (by decide : ("q99" : Str).length ≤ 100000)
              · trivial
              · trivial
              · trivial
              · exact ⟨_, hg12⟩
            clear e12 w12 m12 hv hg12
            have hal : 0 < (encD D).args.length := by
              obtain ⟨v, vs, e, _⟩ := args_head D
              rw [e]
              exact Nat.succ_pos _
            have hal5 := args_len (encD D)
            refine ⟨_, rfl, _, rfl, _, rfl, fa, _, rfl, .inl (SqL.of hfa12), W, _, _, rfl, S12.wl, by omega, hal, by omega, fun u H13 e13 w13 hu => ?_⟩
            obtain ⟨j, rfl, hj⟩ := hu
            have S13 := S12.wx e13 w13
            have m13 := S12.mx e13
            have hfa13 := (del_of (e13 _ _ (del_in hfa12 hfW))).1
            have hv13 : fieldOk H13 v := (hv12.mono e13).mono ex_del
            refine ⟨fa, _, _, j, rfl, rfl, hfa13, Evl.ixN_nat hj, ?_⟩
            obtain ⟨d', ha', hk', hD'⟩ := set_field (H := upd H13 fa (.lst ((encD D).args.set j v))) hj (dok ok hD) hv13.updL
            have hfl : fa ≠ lc := fun z => by
              rw [z, S13.ce] at hfa13
              exact args_cells (HO.lst.inj (Option.some.inj hfa13)).symm
            exact ⟨d', by rw [hk']; rfl, (S13.updL hfa13 hfl hfW).le (by omega), (hF12.mx m13).updL hfa13, by rw [ha', upd_same], hD', (hd12.mx m13).updL hfa13⟩
          rintro σ H12 ⟨d, rfl, S12, hF12, hfa12, hk12, hd12⟩
          refine ⟨_, rfl, _, rfl, fa, d, rfl, hfa12, fun u H13 hu e13 ho13 => ?_⟩
          have S13 := S12.ex e13
          refine ⟨S13.tb, fun H14 e14 tb14 => undo_why (o := some d) rfl rfl ((hF12.mono e13).mx (.ofN e14)) ok (TH.deed (ho13.mx (.ofN e14)) ((hk12.mono e13).nx e14)) fun H15 e15 => ?_⟩
          have S15 := (S13.nx e14 tb14).ex e15
          have hF15 := ((hF12.mono e13).mx (.ofN e14)).mono e15
          have ho15 := (ho13.mx (.ofN e14)).mono e15
          have hk15 := ((hk12.mono e13).nx e14).mono e15
          have hd15 := ((hd12.mono e13).mx (.ofN e14)).mono e15
          refine ⟨S15.tb, fun H16 e16 tb16 => done_why (o := some d) rfl rfl (hF15.mx (.ofN e16)) ok (TH.deed (ho15.mx (.ofN e16)) (hk15.nx e16)) fun H17 e17 => ?_⟩
          have S17 := (S15.nx e16 tb16).ex e17
          have hF17 := (hF15.mx (.ofN e16)).mono e17
          have hd17 := (hd15.mx (.ofN e16)).mono e17
          refine ⟨word_scal, _, rfl, iteND rfl ?_⟩
          refine ⟨_, rfl, W, 2, _, rfl, S17.wl, by omega, by decide, by decide, fun v H18 e18 w18 hv => ?_⟩
          obtain ⟨j, rfl, hj⟩ := hv
          have S18 := S17.wx e18 w18
          have hF18 := hF17.mx (S17.mx e18)
          have hd18 := hd17.mx (S17.mx e18)
          refine ⟨rfl, _, rfl, ?_⟩
          by_cases hz : V.int ((j : Nat) : Int) = .int 0
          · refine iteD hz ⟨_, rfl, _, rfl, rd_done hF18 ok hd18 hD fun p2 H19 hp2 e19 hF19 => ?_⟩
            exact ⟨p2, FM.doneD rs D, x1, x3, _, _, _, _, _, rfl, (S18.ex e19).le (by omega), hF19, (FM.main ok hD).1⟩
          · exact iteDn hz ⟨p, rs, x1, x3, _, _, _, _, _, rfl, S18.le (by omega), hF18, ok⟩
        · exact iteDn h0 ⟨p, rs, x1, x3, _, x6, x7, x8, x9, rfl, S8.le (by omega), hF, ok⟩
      · rintro σ H8 ⟨p, rs, x1, x3, x5, x6, x7, x8, x9, rfl, S8, hF, ok⟩
        refine ⟨Nat.zero_le _, fun g hg => ⟨_, rfl, (by show 5 ≤ sizeLine; decide), fun l hl => ⟨l, true, _, rfl, Sk.l upd_same, fun J2 S2 => ?_⟩⟩⟩
        have e9 := (Ex.new (o := .lst []) hg).trans (Ex.new (o := .lst [.non, .int 5, .str "cut a", .ref g, .ref p]) hl)
        have hg9 : upd (upd H8 g (.lst [])) l (.lst [.non, .int 5, .str "cut a", .ref g, .ref p]) g = some (.lst []) := Ex.new hl _ _ upd_same
        have hl9 : upd (upd H8 g (.lst [])) l (.lst [.non, .int 5, .str "cut a", .ref g, .ref p]) l = some (.lst [.non, .int 5, .str "cut a", .ref g, .ref p]) := upd_same
        have S9 := S8.ex e9
        have hF9 := hF.mono e9
        generalize upd (upd H8 g (.lst [])) l (.lst [.non, .int 5, .str "cut a", .ref g, .ref p]) = H9 at hg9 hl9 S9 hF9
        refine for_sk S2 (fun i σ H' => (∃ x9, σ = Sx x1 (some (.ref W)) x3 (some (.ref p)) x5 x6 x7 x8 x9) ∧ H' g = some (.lst []) ∧ H' l = some (.lst [.non, .int 5, .str "cut a", .ref g, .ref p]) ∧ Sta (lawTb K) lc (iVs cs) W 10000 H' ∧ ForestAt K H' p rs) ⟨⟨_, rfl⟩, hg9, hl9, S9, hF9⟩ (fun i σ H' h => Sk.l h.2.2.1) ?_ fun σ H' ⟨⟨x9, e⟩, _, _, S', _⟩ => ⟨⟨_, _, _, _, _, _, _, _, _, e⟩, S'.ce, S'.tb⟩
        rintro i x σ H10 hx ⟨⟨x9, rfl⟩, hg10, hl10, S10, hF10⟩
        refine ⟨S10.tb, fun H11 e11 tb11 => undo_why (x := x) (o := none) rfl rfl (hF10.mx (.ofN e11)) ok ?_ fun H12 e12 => ?_⟩
        · have hx := List.mem_of_getElem? hx
          simp only [List.mem_cons, List.not_mem_nil, or_false] at hx
          rcases hx with rfl | rfl | rfl | rfl | rfl
          · exact ⟨_, .base .non, T.k_NoneType_Thing⟩
          · exact ⟨_, .base (.int 5), T.k_int_Thing⟩
          · exact ⟨_, .base (.str _), T.k_str_Thing⟩
          · exact ⟨_, .base (.lst (e11 _ _ hg10 (by intro _ z; cases z))), T.k_list_Thing⟩
          · obtain ⟨dx, r, o, d, hp⟩ := (hF10.mx (.ofN e11)).ins
            exact ⟨_, .base (.ins hp T.cl_Forest T.cc_Forest T.cg T.ct T.co_Forest), T.k_Forest_Thing⟩
        · refine ⟨rfl, _, rfl, iteND rfl ⟨⟨_, rfl⟩, ?_, ?_, (S10.nx e11 tb11).ex e12, (hF10.mx (.ofN e11)).mono e12⟩⟩
          · exact e12 _ _ (e11 _ _ hg10 (by intro _ z; cases z))
          · exact e12 _ _ (e11 _ _ hl10 (by intro _ z; cases z))
    rintro σ H0 ⟨x1, x2, x3, x4, x5, x6, x7, x8, x9, rfl⟩
    refine ⟨fun σ H' => ∃ p, σ = (Sx x1 x2 x3 x4 x5 x6 x7 x8 x9).set 10 (some (.ref p)) ∧ ForestAt K H' p (wideF 60), ?_, ?_⟩
    · refine ⟨_, rfl, by decide, by decide, fun D hD => ?_⟩
      refine lc_by 60 (fun i H' => ∃ ws, H' D = some (.lst ws) ∧ RowsAt H' ws (wideF i)) ⟨[], upd_same, trivial⟩ (fun i H' hi hP => hi) (fun H' hP => Nat.le_refl _) (fun i x H' H'' hi hP hy => ?_) fun H' hP => ?_
      · obtain ⟨rfl, rfl⟩ := hy
        obtain ⟨ws, hws, hR⟩ := hP
        have hlw := hR.len
        have hwl : (wideF i).length = i := by unfold wideF; rw [List.length_map, List.length_range]
        have e0 : (0 : Int) + (i : Nat) = ((i : Nat) : Int) := by omega
        refine ⟨rfl, _, rfl, _, rfl, ?_, _, _, rfl, rfl, ?_, _, rfl, _, rfl, _, _, rfl, rfl, .inr ⟨_, rfl, (by show 3 ≤ sizeLine; decide), fun t ht => ?_⟩⟩
        · have : ((0 : Int) + (i : Nat)).natAbs = i := by omega
          rw [this]
          exact Nat.lt_of_le_of_lt (Nat.log2_le_self i) (by omega)
        · have := nW_ok i (List.mem_range.mpr hi)
          have e1 : (nW i).length = ("n" : Str).length + (Str.ofString (toString ((i : Nat) : Int))).length := by
            rw [← cl_len]; unfold nW; rw [cl_app, List.length_append, cl_len, cl_len]
          rw [e0]
          exact szOf (by rw [← e1]; omega)
        · rw [e0]
          have e2 : (if decide ((0 : Int) < ((i : Nat) : Int)) = true then (1 : Int) else 0) = (wideR i).l := by
            by_cases h : 0 < i
            · rw [decide_eq_true (by omega : (0 : Int) < ((i : Nat) : Int))]
              exact (if_pos h).symm
            · rw [decide_eq_false (by omega : ¬ (0 : Int) < ((i : Nat) : Int))]
              exact (if_neg h).symm
          rw [e2]
          have hD' := Ex.new (o := .tup (rowV (wideR i))) ht _ _ hws
          refine ⟨_, hD', szLt (by rw [hlw, hwl]; omega), ws ++ [.ref t], upd_same, ?_⟩
          rw [wide_snoc]
          exact RowsAt.updL hD' ((hR.mono (Ex.new ht)).snoc ⟨t, rfl, upd_same⟩)
      · obtain ⟨ws, hws, hR⟩ := hP
        dsimp only [tNil]
        exact mk_forestR (K := K) (Sk.l hws) hR wide_ok fun p H2 hp e2 hF => ⟨p, rfl, hF⟩
    rintro σ H1 ⟨p, rfl, hF⟩
    have ok := wide_ok
    have hD : FM.okD nmOk vvOk (wideF 60) (.cut "n0") := wide_n0
    obtain ⟨okn, hpl⟩ := FM.main ok hD
    have hul := FM.undo_len ok hD
    refine ⟨_, rfl, ?_⟩
    intro y dx hy hdx hne
    refine mk_deed (K := K) (c := "Cut") (encD (.cut "n0")) hy hdx rfl rfl fun H2 e2 hd2 => ⟨rfl, rd_done (hF.mono e2) ok hd2 hD fun p2 H3 hp2 e3 hF3 => ?_⟩
    refine ⟨_, rfl, ?_⟩
    intro y dx hy hdx hne
    refine mk_deed (K := K) (c := "Cut") (encD (.cut "n0")) hy hdx rfl rfl fun H4 e4 hd4 => ⟨rfl, rd_undo (((hF.mono e2).mono e3).mono e4) ok hd4 hD fun l vs H5 hl e5 h5 hDs => ?_⟩
    have hF5 := (((hF.mono e2).mono e3).mono e4).mono e5
    refine ⟨p2, FM.doneD (wideF 60) (.cut "n0"), l, vs, _, wideF 60, rfl, (hF3.mono e4).mono e5, okn, h5, hDs, by omega, hpl, fun l6 ys q6 H6 hl6 e6 h6 hy6 h06 hF6 ok6 => ?_⟩
    obtain ⟨dx6, r6, o6, d6, xs6, hi6, _, _⟩ := ff_get hF6
    obtain ⟨dx1, r1, o1, d1, xs1, hi1, _, _⟩ := ff_get (hF5.mono e6)
    refine ⟨_, rfl, l6, _, -1, _, rfl, rfl, SqL.of h6, atI_last _ _, _, rfl, q6, p, dx6, dx1, _, _, rfl, rfl, hi6, hi1, q6, p, wideF 60, wideF 60, rfl, hF6, hF5.mono e6, ok6, ok, _, rfl, _, rfl, iteND rfl ?_⟩
    refine ⟨_, rfl, ?_⟩
    intro y dx hy hdx hne
    refine mk_deed (K := K) (c := "Cut") (encD (.cut "n0")) hy hdx rfl rfl fun H7 e7 hd7 => ⟨rfl, rd_undo ((hF5.mono e6).mono e7) ok hd7 hD fun l8 vs8 H8 hl8 e8 h8 hDs8 => ?_⟩
    have hvl := hDs8.len
    refine ⟨l8, vs8, rfl, .inl (SqL.of h8), _, _, rfl, rfl, _, rfl, iteDn (by omega) ?_⟩
    refine ⟨Nat.zero_le _, fun g hg => ?_⟩
    dsimp only [tNil]
    refine mk_forestR (K := K) (rs := []) (Sk.l upd_same) trivial nil_ok fun p9 H9 hp9 e9 hF9 => ?_
    intro y dx hy hdx hne
    refine mk_deed (K := K) (c := "Put") (encD (.put "a" 1 none 0)) hy hdx rfl rfl fun H10 e10 hd10 => ⟨rfl, rd_undo (hF9.mono e10) nil_ok hd10 put_ok fun l11 vs11 H11 hl11 e11 h11 hDs11 => ?_⟩
    have hl1 : vs11.length = 1 := hDs11.len
    refine ⟨Nat.zero_le _, fun g2 hg2 => ⟨l11, g2, vs11, [], rfl, rfl, SqL.of (Ex.new hg2 _ _ h11), SqL.of upd_same, by rw [hl1]; decide, q _⟩⟩
end
end K13
end
section
set_option Elab.async false
set_option linter.all false
set_option maxRecDepth 100000
set_option maxHeartbeats 0
namespace K13
open PySem PySem.Spec PyProof.Rows L2 LamX
theorem says_join {fa : List He.Fa} {fn : List He.DefD} {K : PySem.W.Frag} (c1 : He.SaysD fa [] K) (c2 : He.SaysD [] fn K) : He.SaysD fa fn K := by
  have a : (fa.all fun f => f.ok K) = true := (He.ba (show ((fa.all fun f => f.ok K) && ([] : List He.DefD).all fun d => d.ok K) = true from congrArg (fun z : He.AlD => z.1) c1)).1
  have b : (fn.all fun d => d.ok K) = true := (He.ba (show ((([] : List He.Fa).all fun f => f.ok K) && fn.all fun d => d.ok K) = true from congrArg (fun z : He.AlD => z.1) c2)).2
  have d : (fn.map fun d => He.fnW K d.at_) = fn.map He.DefD.val := congrArg (fun z : He.AlD => z.2) c2
  show (((fa.all fun f => f.ok K) && fn.all fun d => d.ok K), fn.map fun d => He.fnW K d.at_) = (true, fn.map He.DefD.val)
  rw [a, b, d]
  rfl
theorem tx_of {K : PySem.W.Frag} {h : Heap} {mg : Str → Option Value} (c : SaysK h K) (X : K.In h) (G : h.Ns mainGlobals mg) : Tx K mg where
  c := says_join c.c1 c.c2
  e := c.e
  gl := fun _ z => He.glo_ok X G z
  fr := fun _ z => He.free_ok X G z
  st := fun _ _ z => He.str_ok X G z
  it := fun _ _ z => He.int_ok X G z
theorem law_at {w : World} {K : PySem.W.Frag} {h : Heap} {mg : Str → Option Value} {fa : Addr} (c : SaysK h K) (X : K.In h) (G : h.Ns mainGlobals mg) (hfa : mg ("law" : Str) = some (.ref fa)) :
    LawAtS PySem.Challenge.rw_forestrows_k13_whole_deeds_undone w K CX0 12 63 "_law_script" mg fa h := by
  have T := tx_of c X G
  have e := hfa.symm.trans T.g_law
  obtain ⟨fd, F⟩ := T.d_law
  have e2 : fa = He.fAd K ("law", none) := by
    cases e
    rfl
  subst e2
  have b := FunD.bindsA (ps := ["_law_script"]) F fun _ _ _ _ _ _ us hl => match us, hl with | [_], _ => rfl
  have mem : (("law", none) : He.Defn) ∈ lawT := List.mem_singleton.mpr rfl
  refine ⟨fd, [He.cT K ("law", none)], spLaw K, fun p hp => ?_, fun p hp => ?_, fun p hp => ?_, fun s u => b s [u] rfl, fun H a ns hl _ hT hS => ⟨a, ns, rfl, hS, by omega, hT _ (List.mem_singleton.mpr rfl), fun _ => rfl⟩, fun base hb hg hTB => ok_law (T := ⟨T.c, T.e, T.gl, T.fr, T.st, T.it⟩) (hTB _ (List.mem_singleton.mpr rfl)) F⟩
  · rw [List.mem_singleton.mp hp]; exact c.empty _ mem
  · rw [List.mem_singleton.mp hp]; exact c.out _ mem
  · rw [List.mem_singleton.mp hp]; exact PySem.W.codeHd_of_K X (c.hd _ mem)
end K13
open PySem PySem.W PySem.Calls PyProof.Rows
theorem PySem.Challenge.cw_forestrows_k13_whole_deeds_undone_holds : PySem.Challenge.rw_forestrows_k13_whole_deeds_undone.Holds := by
  w_on; o_law
  refine HandSHeadRun.head_any (r := OpenLaw.row PySem.Challenge.rw_forestrows_k13_whole_deeds_undone) (q := K13.qv) (H := K13.hk) (ob := K13.ob) (M := 8000) (loose := K13.names) (d := HandSHeadRun.topDef (OpenLaw.row PySem.Challenge.rw_forestrows_k13_whole_deeds_undone).prog 68) (kwd := []) K13.ob_eq
    (by kernel_rfl) (fun s => by kernel_rfl) K13.run (by kernel_rfl) (by kernel_rfl) (by kernel_rfl) (by rfl) (by first | assumption | decide +kernel) (by decide +kernel) ⟨rfl, rfl, rfl, rfl, rfl, by decide +kernel⟩ ?hw ?hc
  case hw => w_witness2
  case hc =>
    refine LamX.walk_ofTsE (l := PySem.Challenge.rw_forestrows_k13_whole_deeds_undone) (n := 63) (k := 12) (x := "_law_script") (CX := fun _ => L2.CX0) rfl (by decide) (by kernel_rfl) ⟨rfl, by decide, by decide⟩ ?F (fun _ _ _ _ _ z => z)
    intro w mg fa h Y G hmg0
    obtain ⟨K, KX, c⟩ := Y
    have hmg : mg ("law" : PySem.Str) = some (.ref fa) := by
      have e : (HandSHeadRun.topDef (OpenLaw.row PySem.Challenge.rw_forestrows_k13_whole_deeds_undone).prog 68).name = ("law" : PySem.Str) := by kernel_rfl
      rw [← e]
      exact hmg0
    exact ⟨K, KX, K13.law_at c KX G hmg⟩
end
