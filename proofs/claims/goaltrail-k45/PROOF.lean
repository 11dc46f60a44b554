import PyProof.Rows.All
import Wide.All
import OpenK.AllK
import Wide.FinOn
import HandS.ForMost
import KE.GoesMore
import KE.GoesEnum
import HandS.RevTup
import HandS.Rev
import HandS.Conv
import HandS.Walk
import PyProof.DictMoreH
import KE.KSortTupAny
import HandS.SortInts
import HandS.DictEq
import HandS.IsInst
import HandS.Wide
import HandS.Style
import HandS.TupLen
import HandS.EndBits
import HandS.More
import HandS.WideBits
import HandS.HeadHook3
import PySem.Challenge.RW_goaltrail_k45_whole_code_is_the_program
set_option Elab.async false
set_option linter.all false
set_option maxRecDepth 100000
set_option maxHeartbeats 4000000
/-! GtA: plain data: terms, rows, what rows of a rule are, what reading them back gives. No program in sight. -/
namespace GT
open PySem L2

/-! ### terms -/
inductive T where
  | any (x : Str)
  | num (n : Int)
  | app (s : Str) (ks : List T)

mutual
def T.size : T → Nat
  | .any _ => 1
  | .num _ => 1
  | .app _ ks => 1 + sizes ks
def sizes : List T → Nat
  | [] => 0
  | t :: r => t.size + sizes r
end
mutual
def T.occ : T → List Str
  | .any x => [x]
  | .num _ => []
  | .app _ ks => occs ks
def occs : List T → List Str
  | [] => []
  | t :: r => t.occ ++ occs r
end
mutual
/-- at most four kids everywhere; texts that can be laid -/
def T.ok : T → Prop
  | .any x => PyData.strOk x = true
  | .num _ => True
  | .app s ks => PyData.strOk s = true ∧ ks.length ≤ 4 ∧ oks ks
def oks : List T → Prop
  | [] => True
  | t :: r => t.ok ∧ oks r
end
mutual
/-- the term as data, its unknowns by f -/
def T.toW (f : Str → PyData) : T → PyData
  | .any x => .tuple [.str "any", f x]
  | .num n => .tuple [.str "num", .int n]
  | .app s ks => .tuple [.str "app", .str s, .tuple (toWs f ks)]
def toWs (f : Str → PyData) : List T → List PyData
  | [] => []
  | t :: r => t.toW f :: toWs f r
end
abbrev T.toD (t : T) : PyData := t.toW .str
abbrev T.toS (sl : Str → Nat) (t : T) : PyData := t.toW fun x => .int (sl x)

theorem T.size_pos (t : T) : 1 ≤ t.size := by cases t <;> simp [T.size]
theorem sizes_len : ∀ ks : List T, ks.length ≤ sizes ks
  | [] => Nat.le_refl _
  | t :: r => by
    have h1 := t.size_pos
    have h2 := sizes_len r
    simp only [List.length_cons, sizes]
    omega
theorem toWs_map (f : Str → PyData) : ∀ ks : List T, toWs f ks = ks.map (T.toW f)
  | [] => rfl
  | t :: r => by rw [toWs, toWs_map f r]; rfl
theorem toWs_len (f : Str → PyData) (ks : List T) : (toWs f ks).length = ks.length := by rw [toWs_map]; simp
theorem toWs_get (f : Str → PyData) (ks : List T) (j : Nat) : (toWs f ks)[j]? = ks[j]?.map (T.toW f) := by rw [toWs_map]; simp
theorem occs_append : ∀ a b : List T, occs (a ++ b) = occs a ++ occs b
  | [], b => rfl
  | t :: r, b => by
    show t.occ ++ occs (r ++ b) = (t.occ ++ occs r) ++ occs b
    rw [occs_append r b, List.append_assoc]
theorem sizes_append : ∀ a b : List T, sizes (a ++ b) = sizes a + sizes b
  | [], b => by simp [sizes]
  | t :: r, b => by
    show t.size + sizes (r ++ b) = (t.size + sizes r) + sizes b
    rw [sizes_append r b, Nat.add_assoc]
theorem oks_append : ∀ a b : List T, oks (a ++ b) ↔ oks a ∧ oks b
  | [], b => by simp [oks]
  | t :: r, b => by
    show t.ok ∧ oks (r ++ b) ↔ (t.ok ∧ oks r) ∧ oks b
    rw [oks_append r b, and_assoc]
theorem oks_mem : ∀ {ks : List T} {t : T}, oks ks → t ∈ ks → t.ok
  | [], _, _, h => by cases h
  | a :: r, t, h, m => by
    rcases List.mem_cons.mp m with e | m
    · subst e; exact h.1
    · exact oks_mem h.2 m
theorem sizes_mem : ∀ {ks : List T} {t : T}, t ∈ ks → t.size ≤ sizes ks
  | a :: r, t, m => by
    rcases List.mem_cons.mp m with e | m
    · subst e; simp only [sizes]; omega
    · have := sizes_mem m; simp only [sizes]; omega
/-! depth and form -/
mutual
theorem T.depth_le (f : Str → PyData) (hf : ∀ x, (f x).depth = 0) : ∀ t : T, (t.toW f).depth ≤ 2 * t.size
  | .any x => by
    have := hf x
    simp only [T.toW, PyData.depth, PyData.depthAll, T.size]; omega
  | .num n => by simp only [T.toW, PyData.depth, PyData.depthAll, T.size]; omega
  | .app s ks => by
    have := depths_le f hf ks
    simp only [T.toW, PyData.depth, PyData.depthAll, T.size]; omega
theorem depths_le (f : Str → PyData) (hf : ∀ x, (f x).depth = 0) : ∀ ks : List T, PyData.depthAll (toWs f ks) ≤ 2 * sizes ks
  | [] => by simp only [toWs, PyData.depthAll, sizes]; omega
  | t :: r => by
    have h1 := T.depth_le f hf t
    have h2 := depths_le f hf r
    simp only [toWs, PyData.depthAll, sizes]; omega
end
mutual
theorem T.lay (f : Str → PyData) (hf : ∀ x, PyData.strOk x = true → (f x).canLay0 = true) : ∀ t : T, t.ok → (t.toW f).canLay0 = true
  | .any x, h => by
    have := hf x h
    have e : PyData.canLay0 (.str "any") = true := by decide +kernel
    simp only [T.toW, PyData.canLay0, PyData.canLayAll0, this, Bool.and_true]
    exact e
  | .num n, h => by
    have e : PyData.canLay0 (.str "num") = true := by decide +kernel
    simp only [T.toW, PyData.canLay0, PyData.canLayAll0, Bool.and_true]
    exact e
  | .app s ks, h => by
    have h1 := lays f hf ks h.2.2
    have h2 : PyData.canLay0 (.str s) = true := h.1
    have e : PyData.canLay0 (.str "app") = true := by decide +kernel
    show (PyData.canLay0 (.str "app") && (PyData.canLay0 (.str s) && (PyData.canLayAll0 (toWs f ks) && true))) = true
    rw [e, h2, h1]
    rfl
theorem lays (f : Str → PyData) (hf : ∀ x, PyData.strOk x = true → (f x).canLay0 = true) : ∀ ks : List T, oks ks → PyData.canLayAll0 (toWs f ks) = true
  | [], _ => rfl
  | t :: r, h => by
    show ((t.toW f).canLay0 && PyData.canLayAll0 (toWs f r)) = true
    rw [T.lay f hf t h.1, lays f hf r h.2]
    rfl
end

/-! ### names in the order in which they first stand -/
def ad (acc : List Str) (x : Str) : List Str := if x ∈ acc then acc else acc ++ [x]
def names (l : List Str) : List Str := l.foldl ad []
def sl (ns : List Str) (x : Str) : Nat := ns.idxOf x
theorem ad_nodup {acc : List Str} (h : acc.Nodup) (x : Str) : (ad acc x).Nodup := by
  unfold ad
  split
  · exact h
  · rename_i hx
    refine List.nodup_append.mpr ⟨h, by simp, ?_⟩
    intro a ha b hb
    simp at hb
    subst hb
    intro e
    subst e
    exact hx ha
theorem foldl_ad_nodup : ∀ (l : List Str) {acc : List Str}, acc.Nodup → (l.foldl ad acc).Nodup
  | [], _, h => h
  | x :: r, _, h => foldl_ad_nodup r (ad_nodup h x)
theorem names_nodup (l : List Str) : (names l).Nodup := foldl_ad_nodup l List.nodup_nil
theorem ad_pre (acc : List Str) (x : Str) : ∃ more, ad acc x = acc ++ more := by
  unfold ad
  split
  · exact ⟨[], by simp⟩
  · exact ⟨[x], rfl⟩
theorem foldl_ad_pre : ∀ (l : List Str) (acc : List Str), ∃ more, l.foldl ad acc = acc ++ more
  | [], acc => ⟨[], by simp⟩
  | x :: r, acc => by
    obtain ⟨m1, e1⟩ := ad_pre acc x
    obtain ⟨m2, e2⟩ := foldl_ad_pre r (ad acc x)
    exact ⟨m1 ++ m2, by rw [List.foldl_cons, e2, e1, List.append_assoc]⟩
theorem mem_ad (acc : List Str) (x y : Str) : y ∈ ad acc x ↔ y ∈ acc ∨ y = x := by
  unfold ad
  split
  · rename_i h
    constructor
    · exact .inl
    · rintro (h' | rfl)
      · exact h'
      · exact h
  · simp
theorem mem_foldl_ad : ∀ (l : List Str) (acc : List Str) (y : Str), y ∈ l.foldl ad acc ↔ y ∈ acc ∨ y ∈ l
  | [], acc, y => by simp
  | x :: r, acc, y => by
    rw [List.foldl_cons, mem_foldl_ad r, mem_ad, List.mem_cons, or_assoc]
theorem mem_names (l : List Str) (y : Str) : y ∈ names l ↔ y ∈ l := by
  unfold names
  rw [mem_foldl_ad]
  simp
theorem names_len_le (l : List Str) : (names l).length ≤ l.length := by
  have : ∀ (l acc : List Str), (l.foldl ad acc).length ≤ acc.length + l.length := by
    intro l
    induction l with
    | nil => intro acc; simp
    | cons x r ih =>
      intro acc
      rw [List.foldl_cons]
      have h1 := ih (ad acc x)
      have h2 : (ad acc x).length ≤ acc.length + 1 := by
        unfold ad; split <;> simp
      rw [List.length_cons]
      omega
  have := this l []
  simpa [names] using this
theorem names_app (a b : List Str) : ∃ more, names (a ++ b) = names a ++ more := by
  unfold names
  rw [List.foldl_append]
  exact foldl_ad_pre b _
theorem idx_app {a : Str} {l m : List Str} (h : a ∈ l) : (l ++ m).idxOf a = l.idxOf a := by rw [List.idxOf_append, if_pos h]
theorem idx_get : ∀ {l : List Str}, l.Nodup → ∀ (i : Nat) (h : i < l.length), l.idxOf l[i] = i
  | a :: r, nd, 0, h => by simp
  | a :: r, nd, i + 1, h => by
    have nd' := List.nodup_cons.mp nd
    have hi : i < r.length := by simpa using h
    have ne : a ≠ r[i] := fun e => nd'.1 (e ▸ List.getElem_mem hi)
    rw [List.getElem_cons_succ, List.idxOf_cons, idx_get nd'.2 i hi]
    have : (a == r[i]) = false := by simpa using ne
    rw [this]; rfl
/-- the slots of what stands in the first part are just those below its number of names -/
theorem slots_first (a b : List Str) (s : Nat) : (∃ x ∈ a, sl (names (a ++ b)) x = s) ↔ s < (names a).length := by
  obtain ⟨more, e⟩ := names_app a b
  rw [e]
  constructor
  · rintro ⟨x, hx, rfl⟩
    have hm := (mem_names a x).mpr hx
    unfold sl
    rw [idx_app hm]
    exact List.idxOf_lt_length_of_mem hm
  · intro h
    refine ⟨(names a)[s], (mem_names a _).mp (List.getElem_mem h), ?_⟩
    unfold sl
    rw [idx_app (List.getElem_mem h)]
    exact idx_get (names_nodup a) s h
theorem occ_le_size : (∀ t : T, t.occ.length ≤ t.size) := by
  intro t
  exact T.rec (motive_1 := fun t => t.occ.length ≤ t.size) (motive_2 := fun ks => (occs ks).length ≤ sizes ks)
    (fun x => by simp [T.occ, T.size]) (fun n => by simp [T.occ, T.size]) (fun s ks ih => by simp only [T.occ, T.size]; omega)
    (by simp [occs, sizes]) (fun t r h1 h2 => by simp only [occs, sizes, List.length_append]; omega) t
theorem occs_le_sizes : ∀ ks : List T, (occs ks).length ≤ sizes ks
  | [] => by simp [occs, sizes]
  | t :: r => by
    have h1 := occ_le_size t
    have h2 := occs_le_sizes r
    simp only [occs, sizes, List.length_append]
    omega
end GT
/-! GtB: rows of code, and what reading them back gives. -/
namespace GT
open PySem L2

inductive Deed where
  | keep | eq | asg | lt | le
  deriving DecidableEq
def Deed.sign : Deed → Str
  | .keep => "keep" | .eq => "=" | .asg => ":=" | .lt => "<" | .le => "<="
def Deed.word : Deed → Str
  | .keep => "keep" | .eq => "equal" | .asg => "reckon" | .lt => "less" | .le => "atmost"
def Deed.many : Deed → Nat
  | .keep => 0 | _ => 2

inductive Row where
  | slot (same : Bool) (c s : Nat) | num (c : Nat) (n : Int) | app (c : Nat) (g : Str) (m f : Nat)
  | frame | new (s : Nat)
  | put (c s : Nat) | putnum (c : Nat) (n : Int) | build (c : Nat) (g : Str) (m f : Nat)
  | call (g : Str) (m : Nat) | jump (g : Str) (m : Nat) | nt (g : Str) (m : Nat) | deed (d : Deed) | back
/-- a row as its tuple's items -/
def Row.ks : Row → List Key
  | .slot w c s => [.inr (if w then "same" else "slot"), .inl c, .inl s]
  | .num c n => [.inr "num", .inl c, .inl n]
  | .app c g m f => [.inr "app", .inl c, .inr g, .inl m, .inl f]
  | .frame => [.inr "frame"]
  | .new s => [.inr "new", .inl s]
  | .put c s => [.inr "put", .inl c, .inl s]
  | .putnum c n => [.inr "putnum", .inl c, .inl n]
  | .build c g m f => [.inr "build", .inl c, .inr g, .inl m, .inl f]
  | .call g m => [.inr "call", .inr g, .inl m]
  | .jump g m => [.inr "jump", .inr g, .inl m]
  | .nt g m => [.inr "not", .inr g, .inl m]
  | .deed d => [.inr d.word]
  | .back => [.inr "back"]
def Row.word : Row → Str
  | .slot w _ _ => if w then "same" else "slot"
  | .num _ _ => "num" | .app _ _ _ _ => "app" | .frame => "frame" | .new _ => "new"
  | .put _ _ => "put" | .putnum _ _ => "putnum" | .build _ _ _ _ => "build"
  | .call _ _ => "call" | .jump _ _ => "jump" | .nt _ _ => "not" | .deed d => d.word | .back => "back"
theorem Row.ks_head (r : Row) : ∃ more, r.ks = .inr r.word :: more := by
  cases r with
  | slot w c s => exact ⟨_, rfl⟩
  | _ => exact ⟨_, rfl⟩
/-- a row of the head; one that brings -/
def Row.isHead : Row → Bool
  | .slot _ _ _ | .num _ _ | .app _ _ _ _ => true
  | _ => false
def Row.isBring : Row → Bool
  | .put _ _ | .putnum _ _ | .build _ _ _ _ => true
  | _ => false

/-! ### what the maker makes -/
mutual
def T.cells : T → Nat
  | .app _ ks => ks.length + cellss ks
  | _ => 0
def cellss : List T → Nat
  | [] => 0
  | t :: r => t.cells + cellss r
end
mutual
theorem T.cells_eq : ∀ t : T, t.cells + 1 = t.size
  | .any _ => rfl
  | .num _ => rfl
  | .app s ks => by
    have := cellss_eq ks
    simp only [T.cells, T.size]; omega
theorem cellss_eq : ∀ ks : List T, cellss ks + ks.length = sizes ks
  | [] => rfl
  | t :: r => by
    have h1 := T.cells_eq t
    have h2 := cellss_eq r
    simp only [cellss, sizes, List.length_cons]; omega
end
section
variable (f : Str → Nat)
mutual
/-- rows that take a term of a head apart, at cell c, the next new cell n -/
def Take : Nat → T → Nat → List Row → Prop
  | c, .any x, _, rs => ∃ w, rs = [.slot w c (f x)]
  | c, .num i, _, rs => rs = [.num c i]
  | c, .app s ks, n, rs => ∃ r', rs = .app c s ks.length n :: r' ∧ Takes n ks (n + ks.length) r'
def Takes : Nat → List T → Nat → List Row → Prop
  | _, [], _, rs => rs = []
  | c, t :: r, n, rs => ∃ r1 r2, rs = r1 ++ r2 ∧ Take c t n r1 ∧ Takes (c + 1) r (n + t.cells) r2
end
mutual
def bring : Nat → T → Nat → List Row
  | c, .any x, _ => [.put c (f x)]
  | c, .num i, _ => [.putnum c i]
  | c, .app s ks, n => brings n ks (n + ks.length) ++ [.build c s ks.length n]
def brings : Nat → List T → Nat → List Row
  | _, [], _ => []
  | c, t :: r, n => bring c t n ++ brings (c + 1) r (n + t.cells)
end
theorem Takes.snoc : ∀ (ks : List T) (c n : Nat) (t : T) (r1 r2 : List Row), Takes f c ks n r1 → Take f (c + ks.length) t (n + cellss ks) r2 → Takes f c (ks ++ [t]) n (r1 ++ r2)
  | [], c, n, t, r1, r2, h1, h2 => by
    have e : r1 = [] := h1
    subst e
    exact ⟨r2, [], by simp, h2, rfl⟩
  | a :: r, c, n, t, r1, r2, ⟨q1, q2, e, g1, g2⟩, h2 => by
    subst e
    refine ⟨q1, q2 ++ r2, by simp, g1, Takes.snoc r (c + 1) (n + a.cells) t q2 r2 g2 ?_⟩
    have e1 : c + 1 + r.length = c + (a :: r).length := by simp; omega
    have e2 : n + a.cells + cellss r = n + cellss (a :: r) := by simp only [cellss]; omega
    rw [e1, e2]
    exact h2
theorem brings_snoc : ∀ (ks : List T) (c n : Nat) (t : T), brings f c (ks ++ [t]) n = brings f c ks n ++ bring f (c + ks.length) t (n + cellss ks)
  | [], c, n, t => by simp [brings, cellss]
  | a :: r, c, n, t => by
    show bring f c a n ++ brings f (c + 1) (r ++ [t]) (n + a.cells) = (bring f c a n ++ brings f (c + 1) r (n + a.cells)) ++ _
    rw [brings_snoc r, List.append_assoc]
    have e1 : c + 1 + r.length = c + (a :: r).length := by simp; omega
    have e2 : n + a.cells + cellss r = n + cellss (a :: r) := by simp only [cellss]; omega
    rw [e1, e2]
theorem cellss_append : ∀ a b : List T, cellss (a ++ b) = cellss a + cellss b
  | [], b => by simp [cellss]
  | t :: r, b => by
    show t.cells + cellss (r ++ b) = (t.cells + cellss r) + cellss b
    rw [cellss_append r b, Nat.add_assoc]
mutual
theorem Take.len : ∀ (t : T) (c n : Nat) (rs : List Row), Take f c t n rs → rs.length = t.size
  | .any x, c, n, rs, ⟨w, e⟩ => by subst e; rfl
  | .num i, c, n, rs, e => by
    have e : rs = _ := e
    subst e; rfl
  | .app s ks, c, n, rs, ⟨r', e, h⟩ => by
    subst e
    have := Takes.len ks _ _ _ h
    simp only [List.length_cons, T.size]; omega
theorem Takes.len : ∀ (ks : List T) (c n : Nat) (rs : List Row), Takes f c ks n rs → rs.length = sizes ks
  | [], c, n, rs, e => by
    have e : rs = _ := e
    subst e; rfl
  | t :: r, c, n, rs, ⟨r1, r2, e, h1, h2⟩ => by
    subst e
    have g1 := Take.len t _ _ _ h1
    have g2 := Takes.len r _ _ _ h2
    simp only [List.length_append, sizes]; omega
end
mutual
theorem bring_len : ∀ (t : T) (c n : Nat), (bring f c t n).length = t.size
  | .any x, c, n => rfl
  | .num i, c, n => rfl
  | .app s ks, c, n => by
    have := brings_len ks n (n + ks.length)
    simp only [bring, List.length_append, List.length_cons, List.length_nil, T.size]; omega
theorem brings_len : ∀ (ks : List T) (c n : Nat), (brings f c ks n).length = sizes ks
  | [], c, n => rfl
  | t :: r, c, n => by
    have g1 := bring_len t c n
    have g2 := brings_len r (c + 1) (n + t.cells)
    simp only [brings, List.length_append, sizes]; omega
end
mutual
theorem Take.heads : ∀ (t : T) (c n : Nat) (rs : List Row), Take f c t n rs → ∀ r ∈ rs, r.isHead = true
  | .any x, c, n, rs, ⟨w, e⟩, r, h => by subst e; rw [List.mem_singleton] at h; subst h; rfl
  | .num i, c, n, rs, e, r, h => by
    have e : rs = _ := e
    subst e; rw [List.mem_singleton] at h; subst h; rfl
  | .app s ks, c, n, rs, ⟨r', e, h'⟩, r, h => by
    subst e
    rcases List.mem_cons.mp h with e | h
    · subst e; rfl
    · exact Takes.heads ks _ _ _ h' r h
theorem Takes.heads : ∀ (ks : List T) (c n : Nat) (rs : List Row), Takes f c ks n rs → ∀ r ∈ rs, r.isHead = true
  | [], c, n, rs, e, r, h => by
    have e : rs = _ := e
    subst e; cases h
  | t :: q, c, n, rs, ⟨r1, r2, e, h1, h2⟩, r, h => by
    subst e
    rcases List.mem_append.mp h with h | h
    · exact Take.heads t _ _ _ h1 r h
    · exact Takes.heads q _ _ _ h2 r h
end
mutual
theorem bring_brings : ∀ (t : T) (c n : Nat), ∀ r ∈ bring f c t n, r.isBring = true
  | .any x, c, n, r, h => by rw [bring, List.mem_singleton] at h; subst h; rfl
  | .num i, c, n, r, h => by rw [bring, List.mem_singleton] at h; subst h; rfl
  | .app s ks, c, n, r, h => by
    rw [bring] at h
    rcases List.mem_append.mp h with h | h
    · exact brings_brings ks _ _ r h
    · rw [List.mem_singleton] at h; subst h; rfl
theorem brings_brings : ∀ (ks : List T) (c n : Nat), ∀ r ∈ brings f c ks n, r.isBring = true
  | [], c, n, r, h => by cases h
  | t :: q, c, n, r, h => by
    rw [brings] at h
    rcases List.mem_append.mp h with h | h
    · exact bring_brings t _ _ r h
    · exact brings_brings q _ _ r h
end
end

/-! ### a head's rows read back -/
abbrev HS := List (Option Row)
def HStep (cs : HS) : Row → HS → Prop
  | .slot w c s, cs' => cs[c]? = some none ∧ cs' = cs.set c (some (.slot w c s))
  | .num c n, cs' => cs[c]? = some none ∧ cs' = cs.set c (some (.num c n))
  | .app c g m f, cs' => cs[c]? = some none ∧ f = cs.length ∧ m ≤ 4 ∧ cs' = cs.set c (some (.app c g m f)) ++ List.replicate m none
  | _, _ => False
def HRun : HS → List Row → HS → Prop
  | cs, [], cs' => cs' = cs
  | cs, r :: rs, cs' => ∃ c1, HStep cs r c1 ∧ HRun c1 rs cs'
theorem HRun.append : ∀ {r1 r2 : List Row} {a b c : HS}, HRun a r1 b → HRun b r2 c → HRun a (r1 ++ r2) c
  | [], r2, a, b, c, h1, h2 => by
    have e : b = a := h1
    subst e; exact h2
  | r :: rs, r2, a, b, c, ⟨c1, h, h1⟩, h2 => ⟨c1, h, HRun.append h1 h2⟩
section
variable (f : Str → Nat)
mutual
/-- at cell c of cs a term is built -/
def Bt (cs : HS) : Nat → T → Prop
  | c, .any x => ∃ w c', cs[c]? = some (some (.slot w c' (f x)))
  | c, .num n => ∃ c', cs[c]? = some (some (.num c' n))
  | c, .app s ks => ∃ c' n, cs[c]? = some (some (.app c' s ks.length n)) ∧ Bts cs n ks
def Bts (cs : HS) : Nat → List T → Prop
  | _, [] => True
  | n, t :: r => Bt cs n t ∧ Bts cs (n + 1) r
end
mutual
theorem Bt.mono {cs cs' : HS} (h : ∀ (j : Nat) r, cs[j]? = some (some r) → cs'[j]? = some (some r)) : ∀ (t : T) (c : Nat), Bt f cs c t → Bt f cs' c t
  | .any x, c, ⟨w, c', e⟩ => ⟨w, c', h _ _ e⟩
  | .num n, c, ⟨c', e⟩ => ⟨c', h _ _ e⟩
  | .app s ks, c, ⟨c', n, e, b⟩ => ⟨c', n, h _ _ e, Bts.mono h ks n b⟩
theorem Bts.mono {cs cs' : HS} (h : ∀ (j : Nat) r, cs[j]? = some (some r) → cs'[j]? = some (some r)) : ∀ (ks : List T) (c : Nat), Bts f cs c ks → Bts f cs' c ks
  | [], c, _ => trivial
  | t :: r, c, ⟨h1, h2⟩ => ⟨Bt.mono h t c h1, Bts.mono h r (c + 1) h2⟩
end
/-- what a run over a part's rows has done: the cells from lo to hi but those kept -/
structure Ran (cs cs' : HS) (n : Nat) (p : Nat → Prop) : Prop where
  len : cs'.length = n
  kept : ∀ (j : Nat) r, cs[j]? = some (some r) → cs'[j]? = some (some r)
  out : ∀ j : Nat, j < cs.length → ¬ p j → cs'[j]? = cs[j]?
  new : ∀ j : Nat, cs.length ≤ j → j < n → ∃ r, cs'[j]? = some (some r)
/-- .. and the cells from c on, m of them, are filled -/
structure Ran2 (cs cs' : HS) (n c m : Nat) : Prop extends Ran cs cs' n (fun j => c ≤ j ∧ j < c + m) where
  here : ∀ j : Nat, c ≤ j → j < c + m → ∃ r, cs'[j]? = some (some r)
mutual
theorem take_run : ∀ (t : T) (c : Nat) (rs : List Row) (cs : HS), t.ok → Take f c t cs.length rs → cs[c]? = some none →
    ∃ cs', HRun cs rs cs' ∧ Bt f cs' c t ∧ Ran cs cs' (cs.length + t.cells) fun j => j = c
  | .any x, c, rs, cs, ok, ⟨w, e⟩, hc => by
    subst e
    have hlt : c < cs.length := (List.getElem?_eq_some_iff.mp hc).1
    refine ⟨_, ⟨_, ⟨hc, rfl⟩, rfl⟩, ⟨w, c, by rw [List.getElem?_set_self hlt]⟩, ⟨by simp [T.cells], fun j r h => ?_, fun j _ h => ?_, fun j h1 h2 => ?_⟩⟩
    · have : c ≠ j := by rintro rfl; rw [hc] at h; cases h
      rw [List.getElem?_set_ne this]; exact h
    · rw [List.getElem?_set_ne (Ne.symm h)]
    · simp only [T.cells] at h2; omega
  | .num n, c, rs, cs, ok, e, hc => by
    have e : rs = _ := e
    subst e
    have hlt : c < cs.length := (List.getElem?_eq_some_iff.mp hc).1
    refine ⟨_, ⟨_, ⟨hc, rfl⟩, rfl⟩, ⟨c, by rw [List.getElem?_set_self hlt]⟩, ⟨by simp [T.cells], fun j r h => ?_, fun j _ h => ?_, fun j h1 h2 => ?_⟩⟩
    · have : c ≠ j := by rintro rfl; rw [hc] at h; cases h
      rw [List.getElem?_set_ne this]; exact h
    · rw [List.getElem?_set_ne (Ne.symm h)]
    · simp only [T.cells] at h2; omega
  | .app s ks, c, rs, cs, ok, ⟨r', e, ht⟩, hc => by
    subst e
    have hlt : c < cs.length := (List.getElem?_eq_some_iff.mp hc).1
    let c1 : HS := cs.set c (some (.app c s ks.length cs.length)) ++ List.replicate ks.length none
    have l1 : c1.length = cs.length + ks.length := by simp [c1]
    have g1 : ∀ j : Nat, j < cs.length → j ≠ c → c1[j]? = cs[j]? := fun j h hne => by
      show (cs.set c _ ++ _)[j]? = _
      rw [List.getElem?_append_left (by simpa using h), List.getElem?_set_ne (Ne.symm hne)]
    have g2 : c1[c]? = some (some (.app c s ks.length cs.length)) := by
      show (cs.set c _ ++ _)[c]? = _
      rw [List.getElem?_append_left (by simpa using hlt), List.getElem?_set_self hlt]
    have g3 : ∀ j : Nat, cs.length ≤ j → j < cs.length + ks.length → c1[j]? = some none := fun j h h' => by
      show (cs.set c _ ++ _)[j]? = _
      rw [List.getElem?_append_right (by simpa using h), List.getElem?_replicate, if_pos (by simp; omega)]
    have ht' : Takes f cs.length ks c1.length r' := by rw [l1]; exact ht
    obtain ⟨cs', hr, hb, R⟩ := takes_run ks cs.length r' c1 ok.2.2 ht' (fun j hj => g3 _ (by omega) (by omega)) (by omega)
    refine ⟨cs', ⟨c1, ⟨hc, rfl, ok.2.1, rfl⟩, hr⟩, ⟨c, cs.length, R.kept _ _ g2, hb⟩, ⟨?_, fun j r h => R.kept _ _ ?_, fun j h hne => ?_, fun j h1 h2 => ?_⟩⟩
    · rw [R.len, l1]; simp only [T.cells]; omega
    · have hj : j < cs.length := (List.getElem?_eq_some_iff.mp h).1
      have : j ≠ c := by rintro rfl; rw [hc] at h; cases h
      rw [g1 j hj this]; exact h
    · rw [R.out j (by omega) (by omega), g1 j h hne]
    · by_cases hj : j < cs.length + ks.length
      · exact R.here j h1 hj
      · exact R.new j (by omega) (by rw [l1]; simp only [T.cells] at h2; omega)
theorem takes_run : ∀ (ks : List T) (c : Nat) (rs : List Row) (cs : HS), oks ks → Takes f c ks cs.length rs → (∀ j, j < ks.length → cs[c + j]? = some none) → c + ks.length ≤ cs.length →
    ∃ cs', HRun cs rs cs' ∧ Bts f cs' c ks ∧ Ran2 cs cs' (cs.length + cellss ks) c ks.length
  | [], c, rs, cs, ok, e, hc, hl => by
    have e : rs = _ := e
    subst e
    exact ⟨cs, rfl, trivial, ⟨⟨by simp [cellss], fun _ _ h => h, fun _ _ _ => rfl, fun j h1 h2 => by simp [cellss] at h2; omega⟩, fun j h1 h2 => by simp at h2; omega⟩⟩
  | t :: r, c, rs, cs, ok, ⟨r1, r2, e, h1, h2⟩, hc, hl => by
    subst e
    have hl' : c + (r.length + 1) ≤ cs.length := by simpa using hl
    obtain ⟨c1, q1, b1, R1⟩ := take_run t c r1 cs ok.1 h1 (by have := hc 0 (by simp); simpa using this)
    have e1 : c1.length = cs.length + t.cells := R1.len
    have h2' : Takes f (c + 1) r c1.length r2 := by rw [e1]; exact h2
    obtain ⟨c2, q2, b2, R2⟩ := takes_run r (c + 1) r2 c1 ok.2 h2' (fun j hj => by
      rw [R1.out _ (by omega) (by omega)]
      have := hc (j + 1) (by simp; omega)
      rw [← this]; congr 1; omega) (by omega)
    refine ⟨c2, HRun.append q1 q2, ⟨Bt.mono f R2.kept t c b1, b2⟩, ⟨⟨?_, fun j x h => R2.kept _ _ (R1.kept _ _ h), fun j h hne => ?_, fun j g1 g2 => ?_⟩, fun j g1 g2 => ?_⟩⟩
    · rw [R2.len, e1]; simp only [cellss]; omega
    · have hne' : ¬ (c ≤ j ∧ j < c + (r.length + 1)) := by simpa using hne
      rw [R2.out j (by omega) (by omega), R1.out j h (by omega)]
    · by_cases hj : j < c1.length
      · obtain ⟨x, hx⟩ := R1.new j g1 (by omega)
        exact ⟨x, R2.kept _ _ hx⟩
      · exact R2.new j (by omega) (by rw [e1]; simp only [cellss] at g2; omega)
    · by_cases hj : j = c
      · subst hj
        obtain ⟨x, hx⟩ : ∃ x, c1[j]? = some (some x) := by
          cases t with
          | any y => obtain ⟨w, c', e⟩ := b1; exact ⟨_, e⟩
          | num n => obtain ⟨c', e⟩ := b1; exact ⟨_, e⟩
          | app s ks => obtain ⟨c', n, e, _⟩ := b1; exact ⟨_, e⟩
        exact ⟨x, R2.kept _ _ hx⟩
      · exact R2.here j (by omega) (by simp at g2; omega)
end
end
end GT
/-! GtL: list(reversed(..)) of a list and of a tuple. -/
namespace GL
open PySem PySem.W PyProof.Rows
section
variable {prog : Program} {w : World} {A : Around} {E : Value → Shared → Prop} {s : Shared} {T : String} {r d : Addr} {n : Nat} {P : Nat → Value → Prop} {St : Nat → Heap → Prop}
/-- an iterator that list() takes all of -/
structure Src (prog : Program) (w : World) (T : String) (r d : Addr) (n : Nat) (P : Nat → Value → Prop) (St : Nat → Heap → Prop) : Prop where
  type : ∀ (i : Nat) (s : Shared), St i s.heap → s.TypeIs (.ref r) T
  there : ∀ (i : Nat) (h : Heap), St i h → r < h.objs.size ∧ d < h.objs.size
  notList : (Value.type T == Value.type "list") = false
  notTuple : (Value.type T == Value.type "tuple") = false
  hint : ∀ (A : Around) (E : Value → Shared → Prop) (s : Shared) (Q : Bool → Shared → Prop), A.handled = none → St 0 s.heap → (∀ b tk, Q b { s with toks := tk }) → wpAny (model prog w) A (Builtin.List.listLengthHint (.ref r)) Q E s
  walks : ∀ (A : Around), A.handled = none → Walks prog w A r [r, d] [r] n P St
theorem src_extend {R : Result → Shared → Prop} (K : Src prog w T r d n P St) (hh : A.handled = none) (hok : St 0 s.heap) (S : Addr) (hSr : S ≠ r) (hSd : S ≠ d) (res : Value) (c₀ : Nat) (hS : s.heap.get? S = some { cls := .type "list", data := .seq #[] c₀ })
    (hR : ∀ h' tk acc' c', (∀ b o, b ≠ S → b ≠ r → s.heap.get? b = some o → h'.get? b = some o) → h'.get? S = some { cls := .type "list", dict := none, data := .seq acc' c', slots := #[] } → ItemsOf P acc' n → R (.ok (.ret res)) { s with heap := h', toks := tk }) (hn : n ≤ sizeLine) :
    wpAny (model prog w) A.in1 (Builtin.List.listExtendWith (.ref S) (.ref r) res)
      (fun fin s' => match fin with | .done f => R (.ok f) s' | .again c' => c'.quiet = true ∧ codeAny (model prog w) A c' R s') (fun e s' => R (.error e) s') s := by
  have hSf : S ∉ [r, d] := by simp only [List.mem_cons, List.not_mem_nil, or_false, not_or]; exact ⟨hSr, hSd⟩
  have W := K.walks A.in1 hh
  have hT := K.type 0 s hok
  have key : ∀ (h : Heap) (c₁ tk : Nat), St 0 h → (∀ b o, b ≠ S → s.heap.get? b = some o → h.get? b = some o) →
      h.get? S = some { cls := .type "list", data := .seq #[] c₁ } → codeAny (model prog w) A (.builtin "list.extend.loop" ⟨[.ref S, .ref r, res], []⟩) R { s with heap := h, toks := tk } := by
    intro h c₁ tk hst hk hS₁
    refine codeAny_extend_loopS W.toS hn S hSf res n 0 _ #[] c₁ rfl (Nat.zero_le _) hst hS₁ (ItemsOf.nil _) fun s' acc' c' hm hS' hacc => ?_
    rw [Moved.eq_with hm]
    refine hR s'.heap s'.toks acc' c' (fun b o hb hbr e => hm.heap b o (fun hmem => ?_) (hk b o hb e)) hS' hacc
    rcases List.mem_cons.mp hmem with e' | hmem
    · exact hb e'
    · exact hbr (List.mem_singleton.mp hmem)
  unfold Builtin.List.listExtendWith
  refine wpAny_bind (wpAny_typeOf (T := T) hT ?_)
  have h1 : Builtin.List.listSameRef (.ref S) (.ref r) = false := by simp [Builtin.List.listSameRef, hSr]
  simp only [h1, K.notList, K.notTuple, Bool.or_false, Bool.false_eq_true, if_false]
  refine wpAny_bind (W.self 0 _ _ _ hok ?_)
  refine wpAny_bind (wpAny_holding (K.hint _ _ _ _ hh hok fun bb tk => ?_))
  refine wpAny_ite_split (fun _ => ?_) (fun _ => wpAny_pure ⟨plainId_quiet PySem.F.plain_extend_loop _, key _ c₀ _ hok (fun b o _ e => e) hS⟩)
  refine wpAny_bind (wpAny_rule ?_)
  refine wpAny_bind ?_
  show wpAny _ _ (updateSeq S (·.push .none) >>= fun _ => updateSeq S (·.pop)) _ _ _
  refine wpAny_bind (wpAny_updateSeq hS rfl ?_)
  have hS₂ := Heap.get?_update_self (Obj.mapSeq (·.push Value.none)) hS rfl
  refine wpAny_updateSeq (hz := by seq_fits) hS₂ rfl ?_
  have hS₃ := Heap.get?_update_self (Obj.mapSeq (·.pop)) hS₂ rfl
  refine wpAny_pure ⟨plainId_quiet PySem.F.plain_extend_loop _, key _ _ _ ?_ (fun b o hb e => ?_) hS₃⟩
  · refine W.frame 0 _ _ hok fun b hb o e => ?_
    have hbS : b ≠ S := fun h => hSf (h ▸ hb)
    exact (Heap.get?_update_other _ _ (Ne.symm hbS)).trans ((Heap.get?_update_other _ _ (Ne.symm hbS)).trans e)
  · exact (Heap.get?_update_other _ _ (Ne.symm hb)).trans ((Heap.get?_update_other _ _ (Ne.symm hb)).trans e)
theorem src_init {R : Result → Shared → Prop} (K : Src prog w T r d n P St) (hh : A.handled = none) (hok : St 0 s.heap) (S : Addr) (hSr : S ≠ r) (hSd : S ≠ d) (hS : s.heap.get? S = some { cls := .type "list", data := .seq #[] })
    (hR : ∀ h' tk acc' c', (∀ b o, b ≠ S → b ≠ r → s.heap.get? b = some o → h'.get? b = some o) → h'.get? S = some { cls := .type "list", dict := none, data := .seq acc' c', slots := #[] } → ItemsOf P acc' n → R (.ok (.ret .none)) { s with heap := h', toks := tk }) (hn : n ≤ sizeLine) :
    wpAny (model prog w) A.in1 (Builtin.«list.__init__» ⟨[.ref S, .ref r], []⟩)
      (fun fin s' => match fin with | .done f => R (.ok f) s' | .again c' => c'.quiet = true ∧ codeAny (model prog w) A c' R s') (fun e s' => R (.error e) s') s := by
  show wpAny _ _ (do let old ← Builtin.List.listItems (.ref S); Builtin.List.listUpdate (.ref S) (fun _ => #[]); letGo old.toList.reverse; Builtin.List.listExtendWith (.ref S) (.ref r) .none) _ _ s
  refine wpAny_bind ?_
  unfold Builtin.List.listItems
  refine wpAny_bind (wpAny_seqItems hS rfl (wpAny_pure ?_))
  show wpAny _ _ (updateSeq S (fun _ => #[]) >>= fun _ => letGo (#[] : Array Value).toList.reverse >>= fun _ => Builtin.List.listExtendWith (.ref S) (.ref r) .none) _ _ s
  refine wpAny_bind (wpAny_updateSeq hS rfl ?_)
  have hS₂ := Heap.get?_update_self (Obj.mapSeq (fun _ => (#[] : Array Value))) hS rfl
  have oth : ∀ b o, b ≠ S → s.heap.get? b = some o → (s.heap.update S (Obj.mapSeq (fun _ => (#[] : Array Value)))).get? b = some o :=
    fun b o hb e => (Heap.get?_update_other _ _ (Ne.symm hb)).trans e
  refine wpAny_bind (wpAny_letGo ?_)
  have W := K.walks A.in1 hh
  refine src_extend K hh (W.frame 0 _ _ hok fun b hb o e => oth b o (by
    intro z
    subst z
    rcases List.mem_cons.mp hb with q | q
    · exact hSr q
    · exact hSd (List.mem_singleton.mp q)) e) S hSr hSd .none _ hS₂ (fun h' tk acc' c' hk hS' hacc => ?_) hn
  exact hR h' tk acc' c' (fun b o hb hbr e => hk b o hb hbr (oth b o hb e)) hS' hacc
theorem src_call {Q : Value → Shared → Prop} (K : Src prog w T r d n P St) (hh : A.handled = none) (hok : St 0 s.heap) (hn : n ≤ sizeLine)
    (hQ : ∀ h' tk acc' c', (∀ b o, b ≠ r → s.heap.get? b = some o → h'.get? b = some o) → h'.get? s.heap.objs.size = some { cls := .type "list", dict := none, data := .seq acc' c', slots := #[] } → ItemsOf P acc' n → Q (.ref s.heap.objs.size) { s with heap := h', toks := tk }) :
    wpAny (model prog w) A (call (.type "list") [.ref r]) Q E s := by
  refine callType_codes (Q₁ := fun obj s₁ => obj = .ref s.heap.objs.size ∧ s₁ = { s with heap := s.heap.push { cls := .type "list", data := .seq #[] } }) PySem.F.called_list (PySem.F.typeCall_list_1 _) PySem.F.entry_list_init
    (code_list_new _ ⟨rfl, rfl⟩) fun obj s₁ h₁ => ?_
  obtain ⟨rfl, rfl⟩ := h₁
  have hS : (s.heap.push { cls := .type "list", data := .seq #[] }).get? s.heap.objs.size = some { cls := .type "list", data := .seq #[] } := Heap.get?_push_size _ rfl
  have hlt := K.there _ _ hok
  have W := K.walks A.in1.in1 hh
  refine ⟨⟨_, hS, rfl⟩, PySem.F.args_list_init_2 _ _, src_init (A := A.in1) K hh (W.frame 0 _ _ hok fun b _ o e => Heap.get?_push_of_some _ e) _ (Nat.ne_of_gt hlt.1) (Nat.ne_of_gt hlt.2) hS (fun h' tk acc' c' hk hS' hacc => ?_) hn⟩
  exact ⟨rfl, hQ h' tk acc' c' (fun b o hb e => hk b o (Nat.ne_of_lt (Heap.lt_size e)) hb (Heap.get?_push_of_some _ e)) hS' hacc⟩
theorem hint_revlist {Q : Bool → Shared → Prop} (hT : s.TypeIs (.ref r) "list_reverseiterator") (h : Q false s) : wpAny (model prog w) A (Builtin.List.listLengthHint (.ref r)) Q E s := by
  unfold Builtin.List.listLengthHint
  refine wpAny_bind (wpAny_specialOf hT RT.nolen_lri ?_)
  show wpAny _ A (specialOf (Value.ref r) (Str.ofString "__length_hint__") >>= _) _ _ _
  refine wpAny_bind (wpAny_specialOf hT RT.hint_lri ?_)
  generalize hid : ("list_reverseiterator.__length_hint__" : String) = id0
  wp_delta
  rw [show splitId id0 = some ("list_reverseiterator", "__length_hint__") from by subst hid; decide +kernel]
  subst hid
  refine wpAny_bind (wpAny_isInstance (b := true) hT (by rw [isSubtype_type]; kernel_rfl) ?_)
  exact wpAny_pure h
theorem nolen_rt : typeLookup (.type "reversed") "__len__" = pure none := by rw [typeLookup_type, builtinLookup_eq_fast]; kernel_rfl
theorem hint_rt : typeLookup (.type "reversed") "__length_hint__" = pure (some (.builtin "reversed.__length_hint__")) := by rw [typeLookup_type, builtinLookup_eq_fast]; kernel_rfl
theorem type_rt_hint : typeOf (.builtin "reversed.__length_hint__") = pure (.type "method_descriptor") := by show builtinType _ = _; rw [builtinType_eq_fast]; kernel_rfl
theorem slot_rt_hint : Slot "reversed" "__length_hint__" "reversed.__length_hint__" :=
  .of (owner := "reversed") (n := "__length_hint__") (by rw [typeLookup_type, builtinLookup_eq_fast]; kernel_rfl) (by decide +kernel) (by decide +kernel) (by decide +kernel)
    (by first | exact .inl (by decide +kernel) | exact .inr (by decide +kernel)) (by rw [isSubtype_type]; kernel_rfl)
theorem entry_rt_hint : entryFor table "reversed.__length_hint__" = some Builtin.«reversed.__length_hint__» := entryFor_of_tree (by kernel_rfl)
theorem args_rt_hint (a : Value) : argsOk "reversed.__length_hint__" ⟨[a], []⟩ := by
  unfold argsOk; rw [signature?_of (id := "reversed.__length_hint__") (n := ['_', '_', 't', 'n', 'i', 'h', '_', 'h', 't', 'g', 'n', 'e', 'l', '_', '_']) (o := ['d', 'e', 's', 'r', 'e', 'v', 'e', 'r']) (by kernel_rfl) RT.owner_rt]; kernel_rfl
theorem call_hint_rt {t : Addr} {items : Array Value} {Q : Value → Shared → Prop} (hit : RT.IsRt s.heap r t ((items.size : Int) - 1)) (ht : IsTup s.heap t items) (hsz : items.size ≤ sizeLine)
    (h : ∀ tk u, Q (.int items.size u) { s with toks := tk }) : wpAny (model prog w) A (call (.builtin "reversed.__length_hint__") [.ref r]) Q E s := by
  obtain ⟨o, ho, hc, hd⟩ := id hit
  have h63 : sizeLine < 2 ^ 63 := by rw [sizeLine_eq]; decide
  refine wpAny_call_entry slot_rt_hint hit.typeIs entry_rt_hint ?_ (args_rt_hint _)
  unfold Builtin.«reversed.__length_hint__»
  refine wpAny_bind (wpAny_of_eq (a := Value.ref r) rfl ?_)
  refine wpAny_bind (wpAny_field ho hd (x := .ref t) rfl ?_)
  rw [if_neg (by exact Bool.false_ne_true)]
  refine wpAny_bind (len_tuple ht (by omega) ?_)
  refine wpAny_bind (wpAny_of_eq (a := some (items.size : Int)) rfl ?_)
  refine wpAny_bind (wpAny_field (s := { s with toks := s.toks + 1 + 1 }) ho hd (x := rawInt ((items.size : Int) - 1)) rfl ?_)
  show wpAny _ _ (if (items.size : Int) < (items.size : Int) - 1 + 1 then _ else _) _ _ _
  rw [if_neg (by omega)]
  have e1 : (items.size : Int) - 1 + 1 = items.size := by omega
  rw [e1]
  show wpAny _ _ (mkInt (items.size : Int) >>= fun v => ret v) _ _ _
  refine wpAny_bind (wpAny_mkInt (wpAny_pure ⟨_, rfl, h _ _⟩))
theorem hint_revtup {t : Addr} {items : Array Value} {Q : Bool → Shared → Prop} (hit : RT.IsRt s.heap r t ((items.size : Int) - 1)) (ht : IsTup s.heap t items) (hsz : items.size ≤ sizeLine)
    (h : ∀ b tk, Q b { s with toks := tk }) : wpAny (model prog w) A (Builtin.List.listLengthHint (.ref r)) Q E s := by
  have hT := hit.typeIs
  have e24 := sizeLine_eq
  unfold Builtin.List.listLengthHint
  refine wpAny_bind (wpAny_specialOf hT nolen_rt ?_)
  show wpAny _ A (specialOf (Value.ref r) (Str.ofString "__length_hint__") >>= _) _ _ _
  refine wpAny_bind (wpAny_specialOf hT hint_rt ?_)
  generalize hid : ("reversed.__length_hint__" : String) = id0
  wp_delta
  rw [show splitId id0 = some ("reversed", "__length_hint__") from by subst hid; decide +kernel]
  subst hid
  refine wpAny_bind (wpAny_isInstance (b := true) hT (by rw [isSubtype_type]; kernel_rfl) ?_)
  rw [if_neg (by decide), if_neg (by decide +kernel)]
  refine wpAny_bind (wpAny_rule ?_)
  refine wpAny_bind (wpAny_of_eq (a := (Value.builtin "reversed.__length_hint__", [Value.ref r])) (by
    unfold bindSpecial
    rw [type_rt_hint]
    rfl) ?_)
  show wpAny _ _ ((call (Value.builtin "reversed.__length_hint__") [Value.ref r]).attempt >>= _) _ _ _
  refine wpAny_bind (wpAny_attempt (call_hint_rt hit ht hsz fun tk u => ?_))
  have ea : asInt? (.int (items.size : Int) u) = pure (some (items.size : Int)) := rfl
  refine wpAny_bind (m := asInt? (.int (items.size : Int) u)) ?_
  rw [ea]
  refine wpAny_pure ?_
  have f1 : Builtin.List.listFitsIndex (items.size : Int) = true := by
    unfold Builtin.List.listFitsIndex
    rw [Bool.and_eq_true]
    exact ⟨decide_eq_true (by omega), decide_eq_true (by omega)⟩
  have f2 : Builtin.List.listTooLong (Int.toNat (items.size : Int)) = false := by
    unfold Builtin.List.listTooLong
    exact decide_eq_false (by omega)
  simp only [f1, f2, Bool.not_true, Bool.false_eq_true, if_false]
  rw [if_neg (by omega)]
  exact wpAny_pure (h _ _)
theorem src_revlist (it l : Addr) (hne : l ≠ it) (items : Array Value) : Src prog w "list_reverseiterator" it l items.size (fun i v => items[items.size - 1 - i]? = some v) (fun i h => i ≤ items.size ∧ h.IsRevIter it l ((items.size : Int) - 1 - (i : Nat)) ∧ h.IsList l items) where
  type := fun i s st => st.2.1.typeIs
  there := fun i h st => ⟨let ⟨_, q, _⟩ := st.2.1; Heap.lt_size q, let ⟨_, q, _⟩ := st.2.2; Heap.lt_size q⟩
  notList := by decide
  notTuple := by decide
  hint := fun A E s Q _ st h => hint_revlist (s := s) st.2.1.typeIs (h false s.toks)
  walks := fun A hh => Walks.listRev hh it l hne items
/-- reversed(tuple), item by item -/
theorem walks_revtup (hh : A.handled = none) (it t : Addr) (hne : t ≠ it) (items : Array Value) (hsz : items.size ≤ sizeLine) :
    Walks prog w A it [it, t] [it] items.size (fun i v => items[items.size - 1 - i]? = some v) (fun i h => i ≤ items.size ∧ RT.IsRt h it t ((items.size : Int) - 1 - (i : Nat)) ∧ IsTup h t items) where
  sub := fun b hb => by simp at hb; simp [hb]
  frame := fun _ _ _ st hk => ⟨st.1, st.2.1.at fun ob e => hk it (by simp) ob e, let ⟨o, ho, q⟩ := st.2.2; ⟨o, hk t (by simp) o ho, q⟩⟩
  item := fun i s Q E hi st hQ => by
    have hx : items[items.size - 1 - i]? = some items[items.size - 1 - i] := Array.getElem?_eq_getElem (by omega)
    have e1 : (items.size : Int) - 1 - (i : Nat) = ((items.size - 1 - i : Nat) : Int) := by omega
    have hit := st.2.1
    rw [e1] at hit
    refine RT.next_rt_item hit st.2.2 hx hsz fun h' hit' sb => ?_
    refine hQ _ h' _ hx ⟨by omega, ?_, let ⟨o, ho, q⟩ := st.2.2; ⟨o, (sb.2 t hne).trans ho, q⟩⟩ fun b ob hb e => (sb.2 b (fun z => hb (by simp [z]))).trans e
    have e2 : (items.size : Int) - 1 - ((i + 1 : Nat) : Int) = ((items.size - 1 - i : Nat) : Int) - 1 := by omega
    rw [e2]
    exact hit'
  done := fun s Q E st hQ => by
    have hit := st.2.1
    have e1 : (items.size : Int) - 1 - (items.size : Nat) = -1 := by omega
    rw [e1] at hit
    exact RT.next_rt_end hh hit fun h' he' => hQ h' s.toks fun b ob hb e => he' b ob (fun z => hb (by simp [z])) e
  self := fun _ _ _ _ st hQ => RT.iter_rt st.2.1 hQ
theorem src_revtup (it t : Addr) (hne : t ≠ it) (items : Array Value) (hsz : items.size ≤ sizeLine) : Src prog w "reversed" it t items.size (fun i v => items[items.size - 1 - i]? = some v) (fun i h => i ≤ items.size ∧ RT.IsRt h it t ((items.size : Int) - 1 - (i : Nat)) ∧ IsTup h t items) where
  type := fun i s st => st.2.1.typeIs
  there := fun i h st => ⟨let ⟨_, q, _⟩ := st.2.1; Heap.lt_size q, let ⟨_, q, _⟩ := st.2.2; Heap.lt_size q⟩
  notList := by decide
  notTuple := by decide
  hint := fun A E s Q _ st h => hint_revtup (by have := st.2.1; simpa using this) st.2.2 hsz h
  walks := fun A hh => walks_revtup hh it t hne items hsz
end
end GL
namespace GL
open PySem PySem.W PyProof.Rows L2 RT
/-- list(reversed(x)), x a list or a tuple: a new list -/
def tLstRev (K : PySem.W.Frag) (te : TE) : TE := fun σ H Q => te σ H fun v H1 => ∃ (a : Addr) (xs : List V), v = .ref a ∧ (SqL K H1 a xs ∨ SqT K H1 a xs) ∧ ∀ q, H1 q = none → Q (.ref q) (upd H1 q (.lst xs.reverse))
section
variable {X : Cx}
theorem pe_lstRev {e : Expr} {te : TE} {p p2 pos pos2 : Pos} (hc : X.calm = true) (hg : Gl X "list") (hm : X.mg "list" = none) (hg2 : Gl X "reversed") (hm2 : X.mg "reversed" = none) (he : PE X e te)
    (hs : starEach [e] X.env = (false, eval e X.env) :: starEach [] X.env := by rfl)
    (hs2 : starEach [.Call (.Name "reversed" p2) [e] [] pos2] X.env = (false, eval (.Call (.Name "reversed" p2) [e] [] pos2) X.env) :: starEach [] X.env := by rfl) :
    PE X (.Call (.Name "list" p) [.Call (.Name "reversed" p2) [e] [] pos2] [] pos) (tLstRev X.K te) := by
  refine ⟨fun pins s σ H Q I h => ?_⟩
  refine Call_ (ld_blt I hg hm boot_list (PyProof.Rows.callWith_type1 (args_cons (Call_ (ld_blt I hg2 hm2 PyProof.Rows.boot_reversed (PyProof.Rows.callWith_type1 (args_cons (thn (he.run pins s σ H _ I h) fun u s1 ⟨v, H1, I1, r1, q1⟩ => args_nil ?_) hs) hs rfl))) hs2) hs2 rfl))
  obtain ⟨a, xs, ev, hq, q⟩ := q1
  subst ev
  obtain rfl : u = Value.ref a := r1
  obtain ⟨f0, f1, f2, f3, f4, f5⟩ := I1.fpOk (H' := H1) (b := s1.heap.objs.size) (Nat.le_refl _) (I1.hok.fresh (Nat.le_refl _))
  rcases hq with hq | hq
  · obtain ⟨its, rv, p', hz⟩ := I1.list hq
    refine call_reversed_list p'.isList (args_nil ?_)
    have I2 : Inv X pins σ H1 { s1 with heap := s1.heap.push (revObj a ((its.toArray.size : Int) - 1)) } := I1.kept (t' := s1.toks) fun b o e => Heap.get?_push_of_some _ e
    have hl := p'.isList
    obtain ⟨ol, hol, _⟩ := id hl
    have hne : a ≠ s1.heap.objs.size := Nat.ne_of_lt (Heap.lt_size hol)
    have hn : its.toArray.size ≤ sizeLine := by rw [List.size_toArray, ← rv.length]; exact hz
    have e0 : ((its.toArray.size : Nat) : Int) - 1 - ((0 : Nat) : Int) = (its.toArray.size : Int) - 1 := by omega
    refine src_call (s := { s1 with heap := s1.heap.push (revObj a ((its.toArray.size : Int) - 1)) }) (src_revlist s1.heap.objs.size a hne its.toArray) (I1.ok.hd hc) ⟨Nat.zero_le _, by rw [e0]; exact ⟨_, Heap.get?_push_size _ rfl, rfl, rfl⟩, hl.push _⟩ hn fun h' tk acc c' hk hS hi => ?_
    have hlt : s1.heap.objs.size ≤ (s1.heap.push (revObj a ((its.toArray.size : Int) - 1))).objs.size := by rw [Heap.size_push]; exact Nat.le_succ _
    have hfr := I1.hok.fresh hlt
    have ok : ObjOk X.prog X.w (upd H1 (s1.heap.push (revObj a ((its.toArray.size : Int) - 1))).objs.size (.lst xs.reverse)) h' (s1.heap.push (revObj a ((its.toArray.size : Int) - 1))).objs.size (.lst xs.reverse) :=
      ⟨by rw [List.length_reverse]; exact hz, acc.toList, c', vals_rev rv hi, by rw [Array.toArray_toList]; exact hS⟩
    refine ⟨.ref _, _, I1.laid (h' := h') (t' := tk) (fun b o e => hk b o (Nat.ne_of_lt (Heap.lt_size e)) (Heap.get?_push_of_some _ e)) hlt ok, rfl, q _ hfr⟩
  · obtain ⟨its, rv, p', hz⟩ := I1.tuple hq
    have hn0 := line63
    have hlen := rv.length
    refine call_reversed_tup p' (fun A E Q k => len_tuple p' (by simp only [List.size_toArray] <;> omega) k) (args_nil ?_)
    obtain ⟨ol, hol, _⟩ := id p'
    have hne : a ≠ s1.heap.objs.size := Nat.ne_of_lt (Heap.lt_size hol)
    have hn : its.toArray.size ≤ sizeLine := by rw [List.size_toArray, ← rv.length]; exact hz
    have e0 : ((its.toArray.size : Nat) : Int) - 1 - ((0 : Nat) : Int) = (its.toArray.size : Int) - 1 := by omega
    refine src_call (s := { s1 with heap := s1.heap.push (rtObj a ((its.toArray.size : Int) - 1)), toks := s1.toks + 1 + 1 }) (src_revtup s1.heap.objs.size a hne its.toArray hn) (I1.ok.hd hc) ⟨Nat.zero_le _, by rw [e0]; exact ⟨_, Heap.get?_push_size _ rfl, rfl, rfl⟩, let ⟨o, ho, z⟩ := p'; ⟨o, Heap.get?_push_of_some _ ho, z⟩⟩ hn fun h' tk acc c' hk hS hi => ?_
    have hlt : s1.heap.objs.size ≤ (s1.heap.push (rtObj a ((its.toArray.size : Int) - 1))).objs.size := by rw [Heap.size_push]; exact Nat.le_succ _
    have hfr := I1.hok.fresh hlt
    have ok : ObjOk X.prog X.w (upd H1 (s1.heap.push (rtObj a ((its.toArray.size : Int) - 1))).objs.size (.lst xs.reverse)) h' (s1.heap.push (rtObj a ((its.toArray.size : Int) - 1))).objs.size (.lst xs.reverse) :=
      ⟨by rw [List.length_reverse]; exact hz, acc.toList, c', vals_rev rv hi, by rw [Array.toArray_toList]; exact hS⟩
    refine ⟨.ref _, _, I1.laid (h' := h') (t' := tk) (fun b o e => hk b o (Nat.ne_of_lt (Heap.lt_size e)) (Heap.get?_push_of_some _ e)) hlt ok, rfl, q _ hfr⟩
end
end GL
/-! GtM: for i, x in enumerate(tuple); setdefault by tuple keys; d.update(e). -/
namespace GL
open PySem PySem.W PyProof.Rows L2
theorem meets_enumerate_newT (l : Addr) (items : Array Value) :
    Meets (Builtin.«enumerate.__new__» ⟨[.type "enumerate", .ref l], []⟩) (fun _ R s => s.heap.IsTuple l items ∧
      R (.ok (.ret (.ref (s.heap.push { cls := .type "tuple_iterator", data := .fields #[.ref l, .int 0 0] }).objs.size)))
        { s with heap := (s.heap.push { cls := .type "tuple_iterator", data := .fields #[.ref l, .int 0 0] }).push { cls := .type "enumerate", data := .fields #[.none, .bool false, .ref s.heap.objs.size, rawInt 0, .none, .none] } }) :=
  .of_wp fun prog w A R s h => by
    obtain ⟨hp, g, d, tk, os⟩ := s; obtain ⟨hl, h⟩ := h
    have hsub := sub_enumerate
    have q1 : ∀ {A' : Around} {E : Value → Shared → Prop} {Q : Value → Shared → Prop}, Q (.ref hp.objs.size) ⟨hp.push { cls := .type "tuple_iterator", data := .fields #[.ref l, .int 0 0] }, g, d, tk, os⟩ → wpAny (model prog w) A' (pyIter (.ref l)) Q E ⟨hp, g, d, tk, os⟩ :=
      fun q => wpAny_pyIter_tuple (s := ⟨hp, g, d, tk, os⟩) hl q
    wp_walk using q1
    refine wpAny_stack_any fun st => wpAny_pure ?_
    split
    · rename_i c _ _ _ _ _
      cases (c == Value.type "enumerate")
      · wp_walk using q1
        exact ⟨_, rfl, h⟩
      · wp_walk using q1
        exact ⟨_, rfl, h⟩
    · wp_walk using q1
      exact ⟨_, rfl, h⟩
section
variable {prog : Program} {w : World} {A : Around} {E : Value → Shared → Prop} {s : Shared}
theorem call_enumerate_tup {l : Addr} {items : Array Value} {Q : Value → Shared → Prop} (hL : s.heap.IsTuple l items)
    (h : ∀ h', IsEnum h' (s.heap.objs.size + 1) s.heap.objs.size 0 .none → h'.IsTupleIter s.heap.objs.size l 0 → h'.objs.size = s.heap.objs.size + 2 →
      (∀ b o, s.heap.get? b = some o → h'.get? b = some o) → Q (.ref (s.heap.objs.size + 1)) { s with heap := h' }) :
    wpAny (model prog w) A (call (.type "enumerate") [.ref l]) Q E s := by
  refine callType_new F.called_enumerate (by decide) (F.typeCall_enumerate_1 _) (F.newCall_enumerate_1 _) (fun obj => F.args_object_init_2 obj _) F.entry_enumerate_new
    (meets_enumerate_newT l items) ⟨hL, ?_⟩
  have hz : (s.heap.push { cls := .type "tuple_iterator", data := .fields #[.ref l, .int 0 0] }).objs.size = s.heap.objs.size + 1 := Heap.size_push ..
  show _ ∧ _
  rw [hz]
  have he : IsEnum ((s.heap.push { cls := .type "tuple_iterator", data := .fields #[.ref l, .int 0 0] }).push
      { cls := .type "enumerate", data := .fields #[.none, .bool false, .ref s.heap.objs.size, rawInt 0, .none, .none] }) (s.heap.objs.size + 1) s.heap.objs.size 0 .none := by
    have := Heap.get?_push_size (s.heap.push { cls := .type "tuple_iterator", data := .fields #[.ref l, .int 0 0] })
      (o := { cls := .type "enumerate", data := .fields #[.none, .bool false, .ref s.heap.objs.size, rawInt 0, .none, .none] }) rfl
    rw [hz] at this; exact this
  refine ⟨⟨_, he, rfl⟩, h _ he ⟨_, Heap.get?_push_of_some _ (Heap.get?_push_size _ rfl), rfl, rfl⟩ (by rw [Heap.size_push, hz]) fun b o x => Heap.get?_push_of_some _ (Heap.get?_push_of_some _ x)⟩
end
section
variable {prog : Program} {w : World} {A : Around} {E : Value → Shared → Prop} {s : Shared}
theorem tup_enum_end {e it l : Addr} {i : Nat} {items : Array Value} {old : Value} {Q : Option Value → Shared → Prop} (hh : A.handled = none)
    (he : IsEnum s.heap e it i old) (hit : s.heap.IsTupleIter it l i) (hl : s.heap.IsTuple l items) (hx : items[i]? = none)
    (hQ : ∀ h', Heap.ExtBut it s.heap h' → Q none { s with heap := h' }) : wpAny (model prog w) A (pyNext (.ref e)) Q E s := by
  have hT : s.TypeIs (.ref e) "enumerate" := ⟨_, he, rfl⟩
  unfold pyNext
  refine wpAny_bind (wpAny_attempt (wpAny_callSpecial?_slot (name := Str.ofString "__next__") hT F.slot_enumerate_next
    (wpAny_call_entry F.slot_enumerate_next hT F.entry_enumerate_next ?_ (F.args_enumerate_next_1 _))))
  show wpAny _ _ (field (.ref e) 2 >>= _) _ _ _
  refine wpAny_bind (wpAny_field he rfl (x := .ref it) rfl ?_)
  refine wpAny_bind (wpAny_nextOf_tuple_end hh hit hl hx fun h' x he' hx' => ?_)
  obtain ⟨o, ho, hc⟩ := hx'
  refine wpAny_bind (wpAny_isInstance (T := "StopIteration") (b := true) ⟨o, ho, hc⟩ isSubtype_stop ?_)
  exact wpAny_pure (hQ _ he')
end
/-- the tuple at a, each item in a new pair -/
def IteT (K : PySem.W.Frag) (a : Addr) : It :=
  ⟨fun i H => ∃ (xs : List V) (x : V), SqT K H a xs ∧ xs[i]? = some x, fun i H v H' => ∃ T x, v = .ref T ∧ H T = none ∧ H' = upd H T (.tup [.int (i : Nat), x]) ∧ ∀ xs, SqT K H a xs → xs[i]? = some x, fun i H => ∃ xs : List V, SqT K H a xs ∧ xs.length ≤ i⟩
theorem turn_enumT {P : Program} {w : World} {K : PySem.W.Frag} {elts : List Expr} {kk : Nat} {tpos : Pos} (a e it : Addr) :
    Turn P w K (.Tuple elts kk tpos) (IteT K a) [e, it] e (fun i h => (∃ old, IsEnum h e it ((i : Nat) : Int) old) ∧ h.IsTupleIter it a i ∧ e ≠ it ∧ a ≠ it ∧ a ≠ e) where
  mem := by simp
  obj := fun i h st b hb => by
    obtain ⟨⟨old, he⟩, ⟨o, ho, hc, hd⟩, _⟩ := st
    have e' : b = e ∨ b = it := by simpa using hb
    rcases e' with z | z
    · rw [z]; exact ⟨_, he, fun v q => nomatch q⟩
    · rw [z]; exact ⟨o, ho, fun v q => by rw [hd] at q; cases q⟩
  keep := fun i h h' st k => let ⟨⟨old, he⟩, hi, hne⟩ := st; ⟨⟨old, k e (by simp) _ he⟩, hi.at fun o q => k it (by simp) o q, hne⟩
  item := by
    intro X hP hw hK hc i pins s σ H E I hf st hg
    subst hP hw hK
    obtain ⟨⟨old, he⟩, hit, hne, hai, hae⟩ := st
    obtain ⟨xs, x, hq, hx⟩ := hg
    obtain ⟨its, rv, p, hz⟩ := I.tuple hq
    obtain ⟨u, hu, ru⟩ := rv.get hx
    have hT0 : s.heap.IsTuple a its.toArray := p
    have hel : e < s.heap.objs.size := Heap.lt_size he
    have hil : it < s.heap.objs.size := by obtain ⟨_, q, _⟩ := hit; exact Heap.lt_size q
    have hlt : i < its.toArray.size := by
      have h1 := (List.getElem?_eq_some_iff.mp hu).1
      simpa using h1
    refine wpAny_pyNext_enum_itemD (Draws.tuple (prog := X.prog) (w := X.w) (A := X.A.in1) (I.ok.hd hc) it a hai its.toArray) he ⟨hit, hT0⟩ hlt hne (by simp [hne, Ne.symm hae]) fun u' h' tk hP ho hst' hT hsz hk => ?_
    have eu : u' = u := by
      have hP' : its.toArray[i]? = some u' := hP
      rw [List.getElem?_toArray, hu] at hP'
      exact (Option.some.inj hP').symm
    subst eu
    have hit' := hst'.1
    refine ⟨_, rfl, wpAny_letOwnedTupleGo_enum (s := { s with heap := h', toks := tk + 1 }) ho fun h'' he' sb => ?_⟩
    have hT2 : h''.get? s.heap.objs.size = some { cls := .type "tuple", data := .seq #[.int i tk, u'] } := (sb.2 _ (Nat.ne_of_gt hel)).trans hT
    have new : ObjOk X.prog X.w (upd H s.heap.objs.size (.tup [.int (i : Nat), x])) h'' s.heap.objs.size (.tup [.int (i : Nat), x]) :=
      ⟨by show 2 ≤ sizeLine; decide, [.int i tk, u'], .cons ⟨_, rfl⟩ (.cons ru .nil), ⟨_, hT2, rfl, _, rfl⟩⟩
    have I1 : Inv X pins σ (upd H s.heap.objs.size (.tup [.int (i : Nat), x])) { s with heap := h'', toks := tk + 1 } :=
      I.turnedNew (ch := [e, it]) (fun b ob hb q => (sb.2 b (fun z => hb (by simp [z]))).trans (hk b ob (fun z => hb (by simp [z])) (fun z => hb (by simp [z])) q)) hf (Nat.le_refl _) new
    refine ⟨.ref s.heap.objs.size, _, I1, rfl, ⟨_, x, rfl, I.hok.fresh (Nat.le_refl _), rfl, fun ys hy => by rw [I.tuple_inj hy hq]; exact hx⟩, ⟨⟨u', ?_⟩, hit'.at fun o q => (sb.2 it (Ne.symm hne)).trans q, hne, hai, hae⟩, fun b hb => ?_⟩
    · have e1 : ((i + 1 : Nat) : Int) = (i : Int) + 1 := by omega
      rw [e1]; exact he'
    · have hb' : b < s.heap.objs.size := by
        have e' : b = e ∨ b = it := by simpa using hb
        rcases e' with z | z
        · rw [z]; exact hel
        · rw [z]; exact hil
      rw [upd_ne (Nat.ne_of_lt hb')]
      exact (hf b hb).1
  done := by
    intro X hP hw hK hc i pins s σ H E I hf st hg
    subst hP hw hK
    obtain ⟨⟨old, he⟩, hit, hne, hai, hae⟩ := st
    obtain ⟨xs, hq, hx⟩ := hg
    obtain ⟨its, rv, p, hz⟩ := I.tuple hq
    have hT0 : s.heap.IsTuple a its.toArray := p
    obtain ⟨f0, f1, f2, f3, f4, f5⟩ := hf it (by simp)
    have hl := rv.length
    exact tup_enum_end (I.ok.hd hc) he hit hT0 (by simp; omega) fun h' eb => ⟨rfl, I.turned (t' := s.toks) (fun b o hb q => eb b o hb q) f0 f1 f3 f4 f5⟩
  self := fun A i s Q E st h => let ⟨⟨_, he⟩, _⟩ := st; wpAny_pyIter_enum he h
def iEnumT (K : PySem.W.Frag) (ta : TA) : TI := fun σ H R => ta σ H fun vs H1 => ∃ a xs, vs = [.ref a] ∧ SqT K H1 a xs ∧ R (IteT K a) H1
theorem pi_enumT {X : Cx} {e : Expr} {ta : TA} {p pos tpos : Pos} {elts : List Expr} {kk : Nat} (hg : Gl X "enumerate") (hm : X.mg "enumerate" = none) (ha : PA X [e] ta) (hs : starEach [e] X.env = [(false, eval e X.env)] := by rfl) :
    PI X (.Tuple elts kk tpos) (.Call (.Name "enumerate" p) [e] [] pos) (iEnumT X.K ta) := by
  refine ⟨fun pins s σ H R I h => ?_⟩
  refine Call_ (ld_blt I hg hm boot_enumerate (PyProof.Rows.callWith_type1 (thn (ha.run pos pins s σ H _ I h) fun us s1 ⟨vs, H1, I1, r1, q1⟩ => ?_) hs rfl))
  obtain ⟨a, xs, ex, hq, q⟩ := q1
  subst ex
  cases r1 with
  | cons r rr =>
    cases rr
    cases r
    obtain ⟨its, rv, p', hz⟩ := I1.tuple hq
    have hT0 : s1.heap.IsTuple a its.toArray := p'
    have hal : a < s1.heap.objs.size := p'.lt
    refine call_enumerate_tup hT0 fun h' he hit hsz hk => wpAny_pyIter_enum he ?_
    have I2 : Inv X pins σ H1 { s1 with heap := h' } := I1.kept (t' := s1.toks) hk
    refine ⟨s1.heap.objs.size + 1, [s1.heap.objs.size + 1, s1.heap.objs.size], _, _, H1, rfl, I2, turn_enumT a (s1.heap.objs.size + 1) s1.heap.objs.size, ⟨⟨.none, he⟩, hit, Nat.succ_ne_self _, Nat.ne_of_lt hal, Nat.ne_of_lt (Nat.lt_succ_of_lt hal)⟩, fun b hb => ?_, q⟩
    have e' : b = s1.heap.objs.size + 1 ∨ b = s1.heap.objs.size := by simpa using hb
    have hle : s1.heap.objs.size ≤ b := by
      rcases e' with z | z
      · rw [z]; exact Nat.le_add_right _ _
      · rw [z]; exact Nat.le_refl _
    exact I1.fpOk hle (I1.hok.fresh hle)
theorem walk_enumT {K : PySem.W.Frag} {a : Addr} {xs : List V} : Walk (IteT K a) xs.length (fun H => SqT K H a xs) (YPair (fun i => some (.int (i : Nat))) (fun i => xs[i]?)) := by
  refine ⟨fun i _ hi q => ⟨xs, xs[i], q, by simp [hi]⟩, fun _ q => ⟨xs, q, Nat.le_refl _⟩, fun i H v H' _ q y => ?_⟩
  obtain ⟨T, x, h1, h2, h3, h4⟩ := y
  exact ⟨T, .int (i : Nat), x, h1, h2, h3, rfl, h4 xs q⟩

/-! ### d.setdefault(k, z), k a tuple -/
section
variable {X : Cx}
def rSetdT : V → List V → Hp → VK → Prop := fun x vs H Q => ∃ (a b : Addr) (z : V) (kvs : List (List Key × V)) (k : List Key), x = .ref a ∧ vs = [.ref b, z] ∧ H a = some (.dT kvs) ∧ H b = some (.tup (k.map kV)) ∧ kvs.length < sizeLine ∧
  (∀ v, valV kvs k = some v → Q v H) ∧ (valV kvs k = none → Q z (upd H a (.dT (putK kvs k z))))
theorem mt_setdT (hu : X.A.units + 1 < cLine) : MtR X "dict.setdefault" rSetdT := by
  intro pins s σ H x xs v us Q I rx rv h
  obtain ⟨a, b, z, kvs, k, rfl, rfl, e, eb, hl, h1, h2⟩ := h
  cases rx
  obtain ⟨ub, uz, rfl, rb, rz⟩ := rv.two
  cases (show ub = Value.ref b from rb)
  obtain ⟨z0, hd, ks, rel, dd⟩ := dt_of I.hok e
  have hz : ks.length ≤ sizeLine := by rw [← Paired.length rel]; exact z0
  refine call_setdefault_heap (hsz := hz) (tupleKind_room_in1 hu) (key_of I.hok eb) hd dd (fun p hp => ?_) fun hn h' dd' hs => ?_
  · have q := KT.val rel k
    rw [hp] at q
    cases q0 : valV kvs k with
    | none => rw [q0] at q; exact (show False from q).elim
    | some v0 => rw [q0] at q; exact ⟨v0, H, I.tok _, q, h1 v0 q0⟩
  · have q := KT.val rel k
    rw [hn] at q
    cases q0 : valV kvs k with
    | some v0 => rw [q0] at q; exact (show False from q).elim
    | none =>
      have hl2 : (putK kvs k z).length ≤ sizeLine := by have := length_putK kvs k z; omega
      obtain ⟨q', es, ep, hq, e2, e3, e4, _, e5⟩ := dd'
      refine ⟨z, _, d_write (t' := _) (ob := .dT (putK kvs k z)) I (by rw [e]; exact True.intro) hs ⟨q', hq⟩ ⟨hl2, hd, _, (rel.put k eb rz).keeps fun c ys ec => ?_, q', es, ep, hq, e2, e3, e4, e5⟩, rz, h2 q0⟩
      rw [upd_ne (ne_of ec e (fun z => nomatch z))]
      exact ec
/-! ### d.update(e) -/
def rUpdate : V → List V → Hp → VK → Prop := fun x vs H Q => ∃ (a b : Addr) (ks ms : List (Key × V)), x = .ref a ∧ vs = [.ref b] ∧ H a = some (.dK ks) ∧ H b = some (.dK ms) ∧ a ≠ b ∧ ks.length + ms.length ≤ sizeLine ∧
  Q .non (upd H a (.dK (mergeK ks ms)))
theorem mt_update : MtR X "dict.update" rUpdate := by
  intro pins s σ H x xs v us Q I rx rv h
  obtain ⟨a, b, ks, ms, rfl, rfl, ea, eb, hne, hl, h1⟩ := h
  cases rx
  obtain ⟨ub, rfl, rb⟩ := rv.one
  cases (show ub = Value.ref b from rb)
  obtain ⟨za, hda, va, rela, da⟩ := dk_of I.hok ea
  obtain ⟨zb, hdb, vb, relb, db⟩ := dk_of I.hok eb
  have hla := rela.length
  have hlb := relb.length
  refine call_meetsIn PySem.F.slot_dict_update da.typeIs PySem.F.entry_dict_update (PySem.F.args_dict_update_2 _ _) (meets_dict_update (mixKind X.prog X.w) a b hne hdb) ⟨va, vb, da, db, by omega, fun h' d1 d2 hs => ?_⟩
  have he : ∃ q, h'.get? a = some q := let ⟨q, _, _, hq, _⟩ := d1; ⟨q, hq⟩
  have hl2 : (mergeK ks ms).length ≤ sizeLine := by have := length_mergeK ms ks; omega
  exact ⟨.non, _, d_write (t' := s.toks) I (by rw [ea]; exact True.intro) hs he (dk_new hl2 hda (KV.merge relb rela) d1), rfl, h1⟩
end
end GL
/-! GtN: sorted of pairs (one text, an int) that stand in order; != of two triples (dict with tuple keys, int, int). -/
namespace GL
open PySem PySem.W PyProof.Rows L2
/-! ### sorted -/
def IsWI (h : Heap) (v : Value) (x : Str) (n : Int) : Prop := ∃ a o t u k, v = .ref a ∧ h.get? a = some o ∧ o.cls = .type "tuple" ∧ o.data = .seq #[.str x t, .int n u] k
def shW : Nat → Bool := fun i => i == 0
section
variable {prog : Program} {w : World} {A : Around} {E : Value → Shared → Prop} {s : Shared}
theorem IsWI.key {h : Heap} {v : Value} {x : Str} {n : Int} (z : IsWI h v x n) : tupKey h shW v = some [.inr x.cps.toList, .inl n] := by
  obtain ⟨a, o, t, u, k, rfl, ho, hc, hd⟩ := z
  simp [tupKey, ho, hd, tupItems, shW]
theorem IsWI.tup {h : Heap} {v : Value} {x : Str} {n : Int} (z : IsWI h v x n) : ∃ f, TupOf h shW v f := by
  obtain ⟨a, o, t, u, k, rfl, ho, hc, hd⟩ := z
  exact ⟨.str x t, a, o, _, k, rfl, ho, hc, hd, rfl, fun q => by simp [shW] at q, fun _ => ⟨x, t, rfl⟩⟩
theorem wi_tups {h : Heap} {x : Str} {k : Value → Int} : ∀ vs : List Value, (∀ v ∈ vs, IsWI h v x (k v)) → ∃ fs, TupsOf h shW vs fs ∧ fs.length = vs.length
  | [], _ => ⟨[], .nil, rfl⟩
  | v :: r, hp => by
    obtain ⟨f, hf⟩ := (hp v List.mem_cons_self).tup
    obtain ⟨fs, h1, h2⟩ := wi_tups r fun u hu => hp u (List.mem_cons_of_mem _ hu)
    exact ⟨f :: fs, .cons hf h1, by simp [h2]⟩
theorem wi_lt (l : List Nat) (a b : Int) : lexLt itemOrd [.inr l, .inl a] [.inr l, .inl b] = decide (a < b) := by
  rw [lex_self, lex_cons]
  show (decide (a < b) || (!decide (b < a) && lexLt itemOrd [] [])) = decide (a < b)
  have e : lexLt itemOrd [] [] = false := rfl
  rw [e, Bool.and_false, Bool.or_false]
theorem wi_sortable {a : Addr} {vs : List Value} {x : Str} {k : Value → Int} (h0 : 0 < vs.length) (hp : ∀ v ∈ vs, IsWI s.heap v x (k v)) (ha : ∀ o, s.heap.get? a = some o → o.cls ≠ .type "tuple") :
    SrtO.SortableO prog w A s a vs fun v u => decide (k v < k u) := by
  intro h' keep
  have hp' : ∀ v ∈ vs, IsWI h' v x (k v) := fun v hm => by
    obtain ⟨b, o, t, u, j, e, ho, hc, hd⟩ := hp v hm
    exact ⟨b, o, t, u, j, e, keep b o (fun z => by subst z; exact ha o ho hc) ho, hc, hd⟩
  obtain ⟨fs, h1, h2⟩ := wi_tups vs hp'
  refine ⟨tuples' true, fun Q E hq => tup_kind (s := { s with heap := h' }) (by omega) h1 hq, ?_⟩
  intro p q mp mq
  refine tup_ltAt (s := { s with heap := h' }) (shape := shW) true A _ p.1 q.1 _ _ ((hp' _ mp).key) ((hp' _ mq).key) ⟨rfl, ?_⟩
  show lexLt itemOrd _ _ = decide (k p.1 < k q.1)
  exact wi_lt _ _ _
theorem swo_wi (k : Value → Int) : SrtO.Swo fun v u => decide (k v < k u) := by
  refine ⟨fun x y h => ?_, fun x y z h1 h2 => ?_⟩
  · have a := of_decide_eq_true h
    exact decide_eq_false (by omega)
  · have a := of_decide_eq_false h1
    have b := of_decide_eq_false h2
    exact decide_eq_false (by omega)
end
/-- sorted(xs), xs pairs of one text and rising ints: the same once more -/
def rSortedW (K : PySem.W.Frag) : List V → Hp → VK → Prop := fun vs H Q => ∃ (a : Addr) (xs : List V) (x : Str) (k : V → Int), vs = [V.ref a] ∧ SqL K H a xs ∧ (∀ y ∈ xs, ∃ t, y = V.ref t ∧ H t = some (.tup [.str x, .int (k y)])) ∧
  xs.Pairwise (fun y z => k y ≤ k z) ∧ ∀ p, H p = none → Q (.ref p) (upd H p (.lst xs))
section
variable {X : Cx}
theorem cr_sortedW : CallR X (.builtin "sorted") (rSortedW X.K) := by
  intro pins s σ H vs us Q I r h
  obtain ⟨a, xs, x, k, rfl, hs, hx, hpw, q⟩ := h
  obtain ⟨its, rv, hl, hz⟩ := I.list hs
  obtain ⟨u, rfl, ru⟩ := vals1 r
  obtain rfl : u = Value.ref a := ru
  obtain ⟨e1, e2⟩ := refs_back rv fun y m => by
    obtain ⟨t, e, _⟩ := hx y m
    exact ⟨t, e⟩
  have hp : ∀ v ∈ its, IsWI s.heap v x (k (backV v)) := fun v hv => by
    obtain ⟨t, rfl⟩ := e2 v hv
    have hm : V.ref t ∈ xs := by rw [e1]; exact List.mem_map.mpr ⟨_, hv, rfl⟩
    obtain ⟨t', e, ht⟩ := hx _ hm
    cases e
    obtain ⟨_, its2, r2, o, ho, hc, n, hd⟩ := I.hok _ _ ht
    obtain ⟨u1, u2, rfl, ri, rj⟩ := vals2 r2
    obtain ⟨t1, rfl⟩ := ri
    obtain ⟨t2, rfl⟩ := rj
    exact ⟨t, o, t1, t2, n, rfl, ho, hc, hd⟩
  have O := swo_wi fun v => k (backV v)
  refine SrtO.sorted_ord O hl.isList (by rw [← rv.length]; exact hz) (fun h2 h₁ b hb kk => ?_) fun out h1 h2 => ?_
  · refine wi_sortable (s := { s with heap := h₁ }) (x := x) (by omega) (fun v hm => ?_) fun o e => ?_
    · obtain ⟨c, o, t, u, j, e, ho, hc, hd⟩ := hp v hm
      exact ⟨c, o, t, u, j, e, (kk c o ho).2, hc, hd⟩
    · have e' : some o = some (seqObj "list" its.toArray 0) := e.symm.trans hb
      cases e'
      intro c
      exact absurd (Value.type.inj c) (by decide)
  · have hsrt : SrtO.Srtd (fun v u => decide (k (backV v) < k (backV u))) its := by
      have hm : (its.map backV).Pairwise (fun y z => k y ≤ k z) := by rw [← e1]; exact hpw
      exact (List.pairwise_map.mp hm).imp fun {y z} h => decide_eq_false (by omega)
    have eo : out = its := SrtO.stb_uniq O h1 hsrt h2
    subst eo
    obtain ⟨ep, he'⟩ := PyProof.Rows.sortedAll_at s.heap out out.toArray
    exact ⟨.ref _, upd H (s.heap.objs.size + 1) (.lst xs), I.laid (t' := s.toks) (fun _ _ => PyProof.Rows.sortedAll_old) (Nat.le_succ _) ⟨hz, out, ep, rv, he'⟩, rfl, q _ (I.hok.fresh (Nat.le_succ _))⟩
end

/-! ### == of dicts with tuple keys -/
section
variable {prog : Program} {w : World} {K : Type} [DecidableEq K] {knd : HeapKind prog w K} {A : Around} {E : Value → Shared → Prop} {s : Shared}
theorem samePairsH {nm : String} {a b : Addr} {xa xb : List (K × Addr × Value)} {Q : Bool → Shared → Prop} (hu : knd.room A) (ha : (a == sysModules) = false) (hb : (b == sysModules) = false)
    (da : s.heap.DictOfH knd a xa) (db : s.heap.DictOfH knd b xb) (hl : xa.length = xb.length)
    (hits : ∀ x ∈ xa, ∃ (j : Nat) (q : Addr × Value), xb[j]? = some (x.1, q) ∧ SeqAt.EqP prog w A s x.2.2 q.2 true) (h : Q true s) :
    wpAny (model prog w) A (Builtin.Dict.samePairs nm a b) Q E s := by
  obtain ⟨oa, es, ep, hoa, hxa, hda, hea, hisa, hna⟩ := da
  obtain ⟨ob, es', ep', hob, hxb, hdb, heb, hisb, hnb⟩ := db
  have hla : es.size = xa.length := size_of_entries hea
  have hlb : es'.size = xb.length := size_of_entries heb
  unfold Builtin.Dict.samePairs Builtin.Dict.showsAll
  rw [if_neg (show ¬ (a == sysModules) = true by rw [ha]; exact Bool.false_ne_true), if_neg (show ¬ (b == sysModules) = true by rw [hb]; exact Bool.false_ne_true)]
  refine wpAny_bind (wpAny_pure (wpAny_bind (wpAny_pure ?_)))
  refine wpAny_bind (wpAny_dictEntries hoa hda ?_)
  dsimp only
  refine wpAny_bind (wpAny_dictEntries hob hdb ?_)
  have hsz : es.size = es'.size := by omega
  rw [if_neg (by rw [hsz]; simp)]
  refine wpAny_bind (wpAny_dictEpoch hoa hda ?_)
  refine wpAny_bind ?_
  rw [Std.Legacy.Range.forIn_eq_forIn_range']
  simp only [Std.Legacy.Range.size, Nat.sub_zero, Nat.add_sub_cancel, Nat.div_one]
  refine wpAny_forIn_list _
    (fun rest q s' => s' = s ∧ q = (none, ()) ∧ ∃ i, rest = List.range' i (es.size - i) ∧ i ≤ es.size)
    _ ?_ ?_ _ _ ⟨rfl, rfl, 0, by simp, Nat.zero_le _⟩
  · rintro x rest q s' ⟨rfl, rfl, i, hr, hi⟩
    have hlt : i < es.size := by
      rcases Nat.lt_or_ge i es.size with h | h
      · exact h
      · rw [Nat.sub_eq_zero_of_le h] at hr; simp at hr
    obtain ⟨rfl, hrest⟩ : x = i ∧ rest = List.range' (i + 1) (es.size - (i + 1)) := by
      have e : es.size - i = (es.size - (i + 1)) + 1 := by omega
      rw [e, List.range'_succ] at hr
      injection hr with h1 h2
      exact ⟨h1, h2⟩
    refine wpAny_bind (wpAny_dictEntries hoa hda ?_)
    have hlt' : x < xa.length := by rw [← hla]; exact hlt
    have hen : es[x]? = some (entryOfKey knd xa[x]) := by
      have q := entry_at hea x
      rw [List.getElem?_eq_getElem hlt'] at q
      exact q
    obtain ⟨j, qv, hj, heq⟩ := hits xa[x] (List.getElem_mem hlt')
    have hkey := hisa xa[x] (List.getElem_mem hlt')
    rw [hen]
    dsimp only
    show wpAny _ _ (holding [Value.ref xa[x].2.1, xa[x].2.2] _ >>= _) _ _ _
    refine wpAny_bind (wpAny_holding (wpAny_bind (wpAny_dictFind_heap hu hkey hob hdb heb hisb hnb (fun no => ?_) fun j' p' hj' => ?_)))
    · exact absurd hj (no j qv)
    · have hjj : j' = j ∧ p' = qv := by
        have h1 : (xb.map (·.1))[j']? = some xa[x].1 := by rw [List.getElem?_map, hj']; rfl
        have h2 : (xb.map (·.1))[j]? = some xa[x].1 := by rw [List.getElem?_map, hj]; rfl
        have e := nd_ix hnb h1 h2
        subst e
        rw [hj'] at hj
        cases hj
        exact ⟨rfl, rfl⟩
      obtain ⟨rfl, rfl⟩ := hjj
      refine wpAny_bind (wpAny_dictEntries hob hdb ?_)
      have hen' : es'[j']? = some (entryOfKey knd (xa[x].1, p')) := by
        have q := entry_at heb j'
        rw [hj'] at q
        exact q
      rw [hen']
      dsimp only
      refine wpAny_holding (heq _ _ ?_)
      show wpAny _ _ (if (!true) = true then _ else _) _ _ _
      rw [if_neg (by decide)]
      refine wpAny_bind (wpAny_dictEpoch hoa hda ?_)
      rw [if_neg (by simp)]
      exact wpAny_pure ⟨rfl, rfl, x + 1, hrest, hlt⟩
  · rintro q s' ⟨rfl, rfl, i, hr, hi⟩
    exact wpAny_pure h
theorem rcH_dicts {a b : Addr} {xa xb : List (K × Addr × Value)} (hr : knd.room A.in1) (ha : (a == sysModules) = false) (hb : (b == sysModules) = false)
    (da : s.heap.DictOfH knd a xa) (db : s.heap.DictOfH knd b xb) (hu : A.units < cLine) (hl : xa.length = xb.length)
    (hits : ∀ x ∈ xa, ∃ (j : Nat) (q : Addr × Value), xb[j]? = some (x.1, q) ∧ SeqAt.EqP prog w A.in1 s x.2.2 q.2 true) (E Q : Value → Shared → Prop) (h : Q (.bool true) s) :
    wpAny (model prog w) A (richCompare .Eq (.ref a) (.ref b)) Q E s := by
  refine wpAny_richCompare_same_room (op := .Eq) da.typeIs db.typeIs PySem.F.slot_dict_eq (wpAny_call_entry PySem.F.slot_dict_eq da.typeIs PySem.F.entry_dict_eq ?_ (PySem.F.args_dict_eq_2 _ _)) hu
  show wpAny _ _ (Builtin.Dict.dictSlotArgs "__eq__" ⟨[.ref a, .ref b], []⟩ >>= _) _ _ s
  refine wpAny_bind ?_
  unfold Builtin.Dict.dictSlotArgs
  refine wpAny_bind (wpAny_notOrdered_dict da.typeIs ?_)
  show wpAny _ _ (pure (Value.ref a, Value.ref b)) _ _ s
  refine wpAny_pure ?_
  refine wpAny_bind (wpAny_isInstance (T := "dict") db.typeIs PySem.F.sub_dict_dict ?_)
  simp only [Bool.not_true, Bool.false_eq_true, if_false]
  refine wpAny_bind (wpAny_pure (wpAny_bind (wpAny_pure ?_)))
  refine wpAny_bind (samePairsH hr ha hb da db hl hits ?_)
  refine wpAny_pure ⟨_, rfl, ?_, ?_⟩
  · exact fun x => nomatch x
  · exact h
theorem tuple_neP (l b : Addr) (items items2 : Array Value) (n n2 : Nat) (dd dd2 : Option Addr) (sl sl2 : Array (Option Value)) (e : Nat → Bool) :
    MeetsIn prog w (Builtin.«tuple.__ne__» ⟨[.ref l, .ref b], []⟩)
      (fun A R s => s.heap.get? l = some { cls := .type "tuple", dict := dd, data := .seq items n, slots := sl } ∧ s.heap.get? b = some { cls := .type "tuple", dict := dd2, data := .seq items2 n2, slots := sl2 } ∧
        (∀ j (h1 : j < items.size) (h2 : j < items2.size), SeqAt.EqP prog w A.in1 s items[j] items2[j] (e j)) ∧
        R (.ok (.ret (.bool (!((List.range (min items.size items2.size)).all e && items.size == items2.size))))) s) := by
    intro A R s h
    obtain ⟨hp, g, d, tk, os⟩ := s; obtain ⟨hl, hb, he, h⟩ := h
    have f2 := AutoSeq1.sub_tuple_tuple
    have hZ : (items.toList.zip items2.toList).length = min items.size items2.size := by simp
    wp_walk using wpAny_loadPart' hl, wpAny_loadPart' hb, wpAny_forIn_list _ (fun rest b s' => b.1 = none ∧ s' = ⟨hp, g, d, tk, os⟩ ∧ ∃ i, rest = (items.toList.zip items2.toList).drop i ∧
      R (.ok (.ret (.bool (!(((List.range (min items.size items2.size)).drop i).all e && items.size == items2.size))))) ⟨hp, g, d, tk, os⟩) _
    case turn =>
      rintro ⟨y, x⟩ rest b s' ⟨hb', rfl, i, hz, hR⟩
      have hlt : i < (items.toList.zip items2.toList).length := by
        rcases Nat.lt_or_ge i (items.toList.zip items2.toList).length with h' | h'
        · exact h'
        · rw [List.drop_of_length_le h'] at hz; cases hz
      have hm : i < min items.size items2.size := hZ ▸ hlt
      have h1 : i < items.size := Nat.lt_of_lt_of_le hm (Nat.min_le_left _ _)
      have h2 : i < items2.size := Nat.lt_of_lt_of_le hm (Nat.min_le_right _ _)
      rw [List.drop_eq_getElem_cons hlt] at hz
      injection hz with hyx hrest
      have hy : y = items[i] := by have := congrArg Prod.fst hyx; simpa using this
      have hx : x = items2[i] := by have := congrArg Prod.snd hyx; simpa using this
      subst hy hx
      have hd : (List.range (min items.size items2.size)).drop i = i :: (List.range (min items.size items2.size)).drop (i + 1) := by simp [List.drop_eq_getElem_cons, hm]
      rw [hd, List.all_cons] at hR
      refine wpAny_bind (he i h1 h2 _ _ ?_)
      cases hy : e i with
      | true =>
        rw [hy] at hR
        wp_walk
        exact ⟨rfl, rfl, i + 1, hrest, by simpa using hR⟩
      | false =>
        rw [hy] at hR
        wp_walk
        simpa using hR
    case fin =>
      rintro ⟨b1, b2⟩ s' ⟨hb', rfl, i, hz, hR⟩
      simp only at hb'
      subst hb'
      have hge : min items.size items2.size ≤ i := by
        rcases Nat.lt_or_ge i (items.toList.zip items2.toList).length with h' | h'
        · rw [List.drop_eq_getElem_cons h'] at hz; cases hz
        · exact hZ ▸ h'
      rw [List.drop_of_length_le (by simpa using hge)] at hR
      wp_walk
      simpa [Builtin.Tuple.tupleCompareSizes, bne] using hR
    case h =>
      exact ⟨rfl, rfl, 0, rfl, by simpa using h⟩
end
theorem atKeyGet {K : Type} [DecidableEq K] {k : K} {p : Addr × Value} : ∀ {xs : List (K × Addr × Value)}, atKey xs k = some p → ∃ j : Nat, xs[j]? = some (k, p)
  | [], h => by simp [atKey] at h
  | x :: r, h => by
    by_cases e : x.1 = k
    · have h' : some x.2 = some p := by simpa [atKey, List.find?_cons, e] using h
      have e2 := Option.some.inj h'
      exact ⟨0, by rw [List.getElem?_cons_zero, ← e, ← e2]⟩
    · have h' : atKey r k = some p := by simpa [atKey, List.find?_cons, e] using h
      obtain ⟨j, hj⟩ := atKeyGet h'
      exact ⟨j + 1, by simpa using hj⟩
theorem pgetR {α β : Type} {F : α → β → Prop} : ∀ {l₁ : List α} {l₂ : List β} {j : Nat} {x : β}, Paired F l₁ l₂ → l₂[j]? = some x → ∃ y, l₁[j]? = some y ∧ F y x
  | _, _, _, _, .nil, h => by simp at h
  | _, _, 0, x, .cons r t, h => by
    have e := Option.some.inj h
    subst e
    exact ⟨_, rfl, r⟩
  | _, _, j + 1, x, .cons r t, h => by
    obtain ⟨y, h1, h2⟩ := pgetR (j := j) (x := x) t (by simpa using h)
    exact ⟨y, by simpa using h1, h2⟩
/-- x != y, x and y triples (dict with tuple keys and int values, int, int) that are equal: False -/
def rNeSw : R2 := fun x y H Q => ∃ (a b da db : Addr) (i j : Int) (ks ls : List (List L2.Key × V)), x = .ref a ∧ y = .ref b ∧ H a = some (.tup [.ref da, .int i, .int j]) ∧ H b = some (.tup [.ref db, .int i, .int j]) ∧
  H da = some (.dT ks) ∧ H db = some (.dT ls) ∧ ks.length = ls.length ∧ (∀ p ∈ ks, ∃ n, p.2 = .int n ∧ valV ls p.1 = some (.int n)) ∧ Q (.bl false) H
section
variable {X : Cx}
theorem op_neSw (hu : X.A.units + 8 < cLine) : OpR X (compareOp .NotEq) rNeSw := by
  intro pins s σ H x y v u Q I rx ry h
  obtain ⟨a, b, da, db, i, j, ks, ls, rfl, rfl, ha, hb, hda, hdb, hl, hp, q⟩ := h
  cases rx
  cases ry
  obtain ⟨_, its, ra, pa⟩ := (show ObjOk X.prog X.w H s.heap a (.tup _) from I.hok a _ ha)
  obtain ⟨_, its2, rb, pb⟩ := (show ObjOk X.prog X.w H s.heap b (.tup _) from I.hok b _ hb)
  obtain ⟨ua1, ra2, rfl, qa1, ra⟩ : ∃ u r, its = u :: r ∧ RelV (.ref da) u ∧ Vals [.int i, .int j] r := by cases ra with | cons h t => exact ⟨_, _, rfl, h, t⟩
  obtain ⟨ua2, ra3, rfl, qa2, ra⟩ : ∃ u r, ra2 = u :: r ∧ RelV (.int i) u ∧ Vals [.int j] r := by cases ra with | cons h t => exact ⟨_, _, rfl, h, t⟩
  obtain ⟨ua3, rfl, qa3⟩ := ra.one
  obtain ⟨ub1, rb2, rfl, qb1, rb⟩ : ∃ u r, its2 = u :: r ∧ RelV (.ref db) u ∧ Vals [.int i, .int j] r := by cases rb with | cons h t => exact ⟨_, _, rfl, h, t⟩
  obtain ⟨ub2, rb3, rfl, qb2, rb⟩ : ∃ u r, rb2 = u :: r ∧ RelV (.int i) u ∧ Vals [.int j] r := by cases rb with | cons h t => exact ⟨_, _, rfl, h, t⟩
  obtain ⟨ub3, rfl, qb3⟩ := rb.one
  cases (show ua1 = Value.ref da from qa1)
  cases (show ub1 = Value.ref db from qb1)
  obtain ⟨t1, rfl⟩ := qa2
  obtain ⟨t2, rfl⟩ := qa3
  obtain ⟨t3, rfl⟩ := qb2
  obtain ⟨t4, rfl⟩ := qb3
  obtain ⟨za, ya, xa, rela, dda⟩ := dt_of I.hok hda
  obtain ⟨zb, yb, xb, relb, ddb⟩ := dt_of I.hok hdb
  have hlen : xa.length = xb.length := by rw [← Paired.length rela, ← Paired.length relb]; exact hl
  have e1 : SeqAt.EqP X.prog X.w X.A.in1 s (.ref da) (.ref db) true := by
    by_cases e : da = db
    · subst e
      exact (SeqAt.EqAt.same _).eqP
    · refine SeqAt.eqP_refs e fun E Q hq => rcH_dicts (tupleKind_room_in1 (A := X.A.in1) (by show X.A.units + 1 + 1 < cLine; omega)) ya yb dda ddb (by show X.A.units + 1 < cLine; omega) hlen (fun z hz => ?_) E Q hq
      obtain ⟨m, hm⟩ := List.getElem?_of_mem hz
      obtain ⟨kv, hkv, f1, f2, f3⟩ := pgetR rela hm
      obtain ⟨n, en, ev⟩ := hp kv (List.mem_of_getElem? hkv)
      have qv := KT.val relb kv.1
      rw [ev] at qv
      cases q0 : atKey xb kv.1 with
      | none => rw [q0] at qv; exact (show False from qv).elim
      | some p0 =>
        rw [q0] at qv
        obtain ⟨j0, hj0⟩ := atKeyGet q0
        refine ⟨j0, p0, by rw [← f1]; exact hj0, ?_⟩
        rw [en] at f3
        obtain ⟨ta, ea⟩ := f3
        obtain ⟨tb, eb⟩ := (show RelV (.int n) p0.2 from qv)
        rw [ea, eb]
        exact fun E Q hq => wpAny_eqBool_int (by simpa using hq)
  obtain ⟨⟨cls, dd, data, sl⟩, ho, hc, n, hd⟩ := id pa
  obtain ⟨⟨cls2, dd2, data2, sl2⟩, ho2, hc2, n2, hd2⟩ := id pb
  simp only at hc hd hc2 hd2
  subst hc hd hc2 hd2
  have ta : s.TypeIs (.ref a) "tuple" := ⟨_, ho, rfl⟩
  have tb : s.TypeIs (.ref b) "tuple" := ⟨_, ho2, rfl⟩
  show wpAny _ _ (richCompare .NotEq _ _) _ _ _
  refine wpAny_richCompare_same_room (op := .NotEq) ta tb F.slot_tuple_ne (call_meetsIn F.slot_tuple_ne ta F.entry_tuple_ne (F.args_tuple_ne_2 _ _) (tuple_neP a b _ _ n n2 dd dd2 sl sl2 fun _ => true)
    ⟨ho, ho2, fun k h1 h2 => ?_, (show (Value.bool false ≠ Value.notImplemented ∧ EP X pins σ Q (Value.bool false) s) from ⟨(fun z => by cases z), ⟨.bl false, H, I, rfl, q⟩⟩)⟩) (by omega)
  · match k, h1, h2 with
    | 0, _, _ => exact e1
    | 1, _, _ => exact fun E Q hq => wpAny_eqBool_int (by simpa using hq)
    | 2, _, _ => exact fun E Q hq => wpAny_eqBool_int (by simpa using hq)
    | k + 3, h1, _ => exact absurd h1 (by simp)
end
end GL
/-! GtC: the layer's rules with the heap behind as a letter (Kp says what is kept); defs by name. -/
namespace GT
open PySem L2 GL PyProof.Rows
/-- all but the objects at S stand as they stood; tuples always; what is free was free -/
structure Kp (S : List Addr) (H H' : Hp) : Prop where
  kb : ∀ a o, H a = some o → a ∉ S → H' a = some o
  tk : ∀ a xs, H a = some (.tup xs) → H' a = some (.tup xs)
  fr : ∀ a, H' a = none → H a = none
section
variable {S S' : List Addr} {H H1 H2 H3 : Hp} {a b p : Addr} {o u : HO}
theorem Kp.refl (S : List Addr) (H : Hp) : Kp S H H := ⟨fun _ _ h _ => h, fun _ _ h => h, fun _ h => h⟩
theorem Kp.trans (k : Kp S H H1) (k' : Kp S H1 H2) : Kp S H H2 := ⟨fun c o h n => k'.kb c o (k.kb c o h n) n, fun c xs h => k'.tk c xs (k.tk c xs h), fun c h => k.fr c (k'.fr c h)⟩
theorem Kp.sub (k : Kp S H H1) (h : ∀ a ∈ S, a ∈ S' ∨ H a = none) : Kp S' H H1 := ⟨fun c o e n => k.kb c o e fun z => (h c z).elim n (fun q => by rw [q] at e; cases e), k.tk, k.fr⟩
theorem Kp.any (k : Kp [] H H1) (S : List Addr) : Kp S H H1 := k.sub fun _ z => by cases z
theorem Kp.one (k : Kp S H H1) (h : S = [a]) (n : H a = none) : Kp S' H H1 := k.sub fun c z => by
  rw [h, List.mem_singleton] at z
  rw [z]; exact .inr n
theorem Kp.new (n : H p = none) : Kp S H (upd H p o) := ⟨fun c u e _ => by rw [upd_ne (ne_of_none e n)]; exact e, fun c xs e => by rw [upd_ne (ne_of_none e n)]; exact e, fun c e => by
  by_cases q : c = p
  · rw [q, upd_same] at e; cases e
  · rw [upd_ne q] at e; exact e⟩
theorem Kp.mut (e : H a = some u) (ha : ∀ xs, u ≠ .tup xs) (hs : a ∈ S) : Kp S H (upd H a o) := ⟨fun c v e' n => by
  rw [upd_ne (fun q => n (by rw [q]; exact hs))]; exact e', fun c xs e' => by
  rw [upd_ne (fun q => by subst q; rw [e] at e'; exact ha xs (Option.some.inj e'))]; exact e', fun c e' => by
  by_cases q : c = a
  · rw [q, upd_same] at e'; cases e'
  · rw [upd_ne q] at e'; exact e'⟩
theorem Kp.tup {xs : List V} (k : Kp S H H1) (h : H a = some (.tup xs)) : H1 a = some (.tup xs) := k.tk a xs h
theorem Kp.obj (k : Kp S H H1) (h : H a = some o) (n : a ∉ S) : H1 a = some o := k.kb a o h n
theorem Kp.obj0 (k : Kp [] H H1) (h : H a = some o) : H1 a = some o := k.kb a o h (by simp)
theorem Kp.obj1 (k : Kp [b] H H1) (h : H a = some o) (n : a ≠ b) : H1 a = some o := k.kb a o h (by simpa using n)
theorem Kp.some_ (k : Kp S H H1) (h : H a = some o) : ∃ u, H1 a = some u := by
  cases e : H1 a with
  | none => rw [k.fr a e] at h; cases h
  | some u => exact ⟨u, rfl⟩
theorem Kp.sql {K : PySem.W.Frag} {xs : List V} (k : Kp [] H H1) (h : SqL K H a xs) : SqL K H1 a xs := by
  rcases h with (h | ⟨o, h⟩) | h
  · exact .inl (.inl (k.obj0 h))
  · exact .inl (.inr ⟨o, k.obj0 h⟩)
  · exact .inr h
theorem Kp.sqL {K : PySem.W.Frag} {xs : List V} (k : Kp S H H1) (h : SqL K H a xs) (n : a ∉ S) : SqL K H1 a xs := by
  rcases h with (h | ⟨o, h⟩) | h
  · exact .inl (.inl (k.obj h n))
  · exact .inl (.inr ⟨o, k.obj h n⟩)
  · exact .inr h
end
/-- a new object o, its place told, the heap a letter -/
def Nw (H : Hp) (o : HO) (R : V → Hp → Prop) : Prop := ∀ p H2, H p = none → Kp [] H H2 → H2 p = some o → R (.ref p) H2
theorem Nw.raw {H : Hp} {o : HO} {R : V → Hp → Prop} (h : Nw H o R) : ∀ p, H p = none → R (.ref p) (upd H p o) := fun p n => h p _ n (Kp.new n) upd_same
/-- the object at a is now o -/
def Wr (H : Hp) (a : Addr) (o : HO) (R : Hp → Prop) : Prop := ∀ H2, Kp [a] H H2 → H2 a = some o → R H2
theorem Wr.raw {H : Hp} {a : Addr} {o u : HO} {R : Hp → Prop} (h : Wr H a o R) (e : H a = some u) (ha : ∀ xs, u ≠ .tup xs) : R (upd H a o) := h _ (Kp.mut e ha (by simp)) upd_same

/-! ### rules -/
section
variable {X : Cx}
theorem pe_imp {e : Expr} {t t' : TE} (h : PE X e t) (hi : ∀ σ H Q, t' σ H Q → t σ H Q) : PE X e t' := ⟨fun pins s σ H Q I q => h.run pins s σ H Q I (hi σ H Q q)⟩
theorem ps_imp {e : Stmt} {t t' : TS} (h : PS X e t) (hi : ∀ D σ H, t' D σ H → t D σ H) : PS X e t' := ⟨fun pins s σ H D I q => h.run pins s σ H D I (hi D σ H q)⟩
/-- readings are monotone in what is wanted -/
def MonoA (t : TA) : Prop := ∀ σ H (Q Q' : List V → Hp → Prop), (∀ v H, Q v H → Q' v H) → t σ H Q → t σ H Q'
def MonoE (t : TE) : Prop := ∀ σ H (Q Q' : VK), (∀ v H, Q v H → Q' v H) → t σ H Q → t σ H Q'
theorem pa_mono {es : List Expr} {t : TA} (h : PA X es t) : PA X es (fun σ H Q => ∃ Q', t σ H Q' ∧ ∀ v H, Q' v H → Q v H) := ⟨fun pos pins s σ H Q I ⟨Q', q, hq⟩ => thn (h.run pos pins s σ H Q' I q) fun us s1 ⟨vs, H1, I1, r, z⟩ => ⟨vs, H1, I1, r, hq _ _ z⟩⟩
/-- (a, b, ..), [a, b, ..] -/
def uTup (t : TA) : TE := fun σ H Q => t σ H fun xs H1 => xs.length ≤ 100 ∧ Nw H1 (.tup xs) Q
def uLst (t : TA) : TE := fun σ H Q => t σ H fun xs H1 => xs.length ≤ 100 ∧ Nw H1 (.lst xs) Q
theorem sz100 {n : Nat} (h : n ≤ 100) : n ≤ sizeLine := Nat.le_trans h (by rw [sizeLine_eq]; decide)
theorem pa_imp {es : List Expr} {t : TA} {R R' : List V → Hp → Prop} {pos : Pos} {pins : List (Addr × Obj)} {s : Shared} {σ : L2.St} {H : Hp} (h : PA X es t) (hi : ∀ xs H, R xs H → R' xs H) (I : Inv X pins σ H s) (q : t σ H R) :
    wpAny (model X.prog X.w) X.A (spliced (backTo pos (starEach es X.env))) (AP X pins σ R') X.xe s :=
  thn (h.run pos pins s σ H R I q) fun us s1 ⟨vs, H1, I1, r, z⟩ => ⟨vs, H1, I1, r, hi _ _ z⟩
theorem pe_tupN {es : List Expr} {t : TA} {x1 : Nat} {pos : Pos} (h : PA X es t) : PE X (.Tuple es x1 pos) (uTup t) := by
  have g : PA X es (fun σ H R => ∃ R', t σ H R' ∧ ∀ v H, R' v H → R v H) := pa_mono h
  refine pe_imp (pe_tup g) fun σ H Q q => ⟨_, q, fun xs H1 z => ⟨sz100 z.1, z.2.raw⟩⟩
theorem pe_lstN {es : List Expr} {t : TA} {pos : Pos} (h : PA X es t) : PE X (.List es pos) (uLst t) := by
  have g : PA X es (fun σ H R => ∃ R', t σ H R' ∧ ∀ v H, R' v H → R v H) := pa_mono h
  refine pe_imp (pe_lst g) fun σ H Q q => ⟨_, q, fun xs H1 z => ⟨sz100 z.1, z.2.raw⟩⟩
theorem pe_dnewKN {pos : Pos} : PE X (.Dict [] [] pos) (fun _ H Q => Nw H (.dK []) Q) := pe_imp pe_dnewK fun _ _ _ q => q.raw
theorem pe_dnewTN {pos : Pos} : PE X (.Dict [] [] pos) (fun _ H Q => Nw H (.dT []) Q) := pe_imp pe_dnewT fun _ _ _ q => q.raw
/-- the monotone closure of an expression's rule -/
theorem pe_mono {e : Expr} {t : TE} (h : PE X e t) : PE X e (fun σ H Q => ∃ Q', t σ H Q' ∧ ∀ v H, Q' v H → Q v H) := ⟨fun pins s σ H Q I ⟨Q', q, hq⟩ => thn (h.run pins s σ H Q' I q) fun us s1 ⟨vs, H1, I1, r, z⟩ => ⟨vs, H1, I1, r, hq _ _ z⟩⟩
/-- e[n], e a tuple, a list; n written -/
def uT (te : TE) (n : Nat) : TE := fun σ H Q => te σ H fun x H1 => ∃ p xs v, x = .ref p ∧ H1 p = some (.tup xs) ∧ xs[n]? = some v ∧ Q v H1
def uL (te : TE) (n : Nat) : TE := fun σ H Q => te σ H fun x H1 => ∃ p xs v, x = .ref p ∧ H1 p = some (.lst xs) ∧ xs[n]? = some v ∧ Q v H1
theorem pe_tc {e : Expr} {te : TE} {n : Nat} {j : Nat} {p1 pos : Pos} (h : PE X e te) : PE X (.Subscript e (.Constant (.int (n : Int)) j p1) pos) (uT te n) :=
  pe_imp (pe_ix ix_tup (pe_mono h) pe_int (fun _ _ => rfl)) fun σ H Q q => ⟨_, q, fun x H1 ⟨p, xs, v, e1, e2, e3, z⟩ => ⟨p, xs, n, v, e1, rfl, SqT.of e2, atI_nat e3, z⟩⟩
theorem pe_lc_ {e : Expr} {te : TE} {n : Nat} {j : Nat} {p1 pos : Pos} (h : PE X e te) : PE X (.Subscript e (.Constant (.int (n : Int)) j p1) pos) (uL te n) :=
  pe_imp (pe_ix ix_list (pe_mono h) pe_int (fun _ _ => rfl)) fun σ H Q q => ⟨_, q, fun x H1 ⟨p, xs, v, e1, e2, e3, z⟩ => ⟨p, xs, n, v, e1, rfl, SqL.of e2, atI_nat e3, z⟩⟩
/-- e[i], a list, a tuple at a place that is reckoned -/
def uIL (te ti : TE) : TE := fun σ H Q => te σ H fun x H1 => ti σ H1 fun y H2 => ∃ p xs, ∃ (n : Nat), ∃ v, x = .ref p ∧ y = .int n ∧ H2 p = some (.lst xs) ∧ xs[n]? = some v ∧ Q v H2
theorem pe_il {e i : Expr} {te ti : TE} {pos : Pos} (h : PE X e te) (hi : PE X i ti) (hp : PlainIx i := by exact fun _ _ => rfl) : PE X (.Subscript e i pos) (uIL te ti) := by
  refine pe_imp (pe_ix ix_list (pe_mono h) (pe_mono hi) hp) fun σ H Q q => ⟨_, q, fun x H1 z => ⟨_, z, fun y H2 ⟨p, xs, n, v, e1, e2, e3, e4, w⟩ => ?_⟩⟩
  subst e2
  exact ⟨p, xs, n, v, e1, rfl, SqL.of e3, atI_nat e4, w⟩
/-- xs.append(e) -/
def uApp (to te : TE) : TE := fun σ H Q => to σ H fun x H1 => ∃ l xs0, x = .ref l ∧ H1 l = some (.lst xs0) ∧ te σ H1 fun y H2 => ∃ xs, H2 l = some (.lst xs) ∧ xs.length ≤ 100000 ∧ Wr H2 l (.lst (xs ++ [y])) fun H3 => Q .non H3
theorem sz5 {n : Nat} (h : n ≤ 100000) : n < sizeLine := Nat.lt_of_le_of_lt h (by rw [sizeLine_eq]; decide)
theorem sz5' {n : Nat} (h : n ≤ 100000) : n ≤ sizeLine := Nat.le_of_lt (sz5 h)
theorem pe_app {o e : Expr} {to te : TE} {apos cpos : Pos} (ho : PE X o to) (he : PE X e te)
    (hs : starEach [e] X.env = (false, eval e X.env) :: starEach [] X.env := by rfl)
    (hbase : attributeBase o "append" X.env (eval o X.env) = eval o X.env := by rfl)
    (hfew : ((backTo cpos (starEach [e] X.env)).all (fun x => !x.1) && (backToKw cpos (keywordEach [] X.env)).all (fun x => x.1.isSome)
      && decide ([e].length + ([] : List Keyword).length + (if ([] : List Keyword).isEmpty then 0 else 1) < 30)) = true := by rfl)
    (hline : (apos.endLine == cpos.line) = true := by rfl) (hplain : (backTo cpos (starEach [] X.env)).any (·.1) = false := by rfl) :
    PE X (.Call (.Attribute o "append" apos) [e] [] cpos) (uApp to te) := by
  refine pe_imp (pe_bm PySem.F.plainAttrs_list PySem.F.slot_list_append PySem.F.type_list_append mt_append (pe_mono ho) (pa_cons (pe_mono he) pa_nil hs) hbase hfew hline hs hplain) fun σ H Q q => ⟨_, q, fun x H1 ⟨l, xs0, e1, e2, z⟩ => ?_⟩
  subst e1
  exact ⟨.inl ⟨rfl, _, SqL.of e2⟩, _, z, fun y H2 ⟨xs, h1, h2, w⟩ => ⟨l, xs, y, rfl, rfl, h1, sz5 h2, w.raw h1 (fun _ z => by cases z)⟩⟩
/-- xs.extend(ys) -/
def uExt (to te : TE) : TE := fun σ H Q => to σ H fun x H1 => ∃ l xs0, x = .ref l ∧ H1 l = some (.lst xs0) ∧ te σ H1 fun y H2 => ∃ b xs ys, y = .ref b ∧ H2 l = some (.lst xs) ∧ H2 b = some (.lst ys) ∧ xs.length + ys.length ≤ 100000 ∧ Wr H2 l (.lst (xs ++ ys)) fun H3 => Q .non H3
theorem pe_ext {o e : Expr} {to te : TE} {apos cpos : Pos} (ho : PE X o to) (he : PE X e te)
    (hs : starEach [e] X.env = (false, eval e X.env) :: starEach [] X.env := by rfl)
    (hbase : attributeBase o "extend" X.env (eval o X.env) = eval o X.env := by rfl)
    (hfew : ((backTo cpos (starEach [e] X.env)).all (fun x => !x.1) && (backToKw cpos (keywordEach [] X.env)).all (fun x => x.1.isSome)
      && decide ([e].length + ([] : List Keyword).length + (if ([] : List Keyword).isEmpty then 0 else 1) < 30)) = true := by rfl)
    (hline : (apos.endLine == cpos.line) = true := by rfl) (hplain : (backTo cpos (starEach [] X.env)).any (·.1) = false := by rfl) :
    PE X (.Call (.Attribute o "extend" apos) [e] [] cpos) (uExt to te) := by
  refine pe_imp (pe_bm PySem.F.plainAttrs_list PySem.F.slot_list_extend PySem.F.type_list_extend mt_extend (pe_mono ho) (pa_cons (pe_mono he) pa_nil hs) hbase hfew hline hs hplain) fun σ H Q q => ⟨_, q, fun x H1 ⟨l, xs0, e1, e2, z⟩ => ?_⟩
  subst e1
  refine ⟨.inl ⟨rfl, _, SqL.of e2⟩, _, z, fun y H2 ⟨b, xs, ys, hy, h1, h2, h3, w⟩ => ?_⟩
  subst hy
  exact ⟨l, b, xs, ys, rfl, rfl, h1, h2, sz5' h3, w.raw h1 (fun _ z => by cases z)⟩
/-- xs.pop() -/
def uPop (to : TE) : TE := fun σ H Q => to σ H fun x H1 => ∃ l xs y, x = .ref l ∧ H1 l = some (.lst xs) ∧ xs[xs.length - 1]? = some y ∧ Wr H1 l (.lst xs.dropLast) fun H2 => Q y H2
theorem pe_pop {o : Expr} {to : TE} {apos cpos : Pos} (ho : PE X o to)
    (hbase : attributeBase o "pop" X.env (eval o X.env) = eval o X.env := by rfl) (hline : (apos.endLine == cpos.line) = true := by rfl) :
    PE X (.Call (.Attribute o "pop" apos) [] [] cpos) (uPop to) := by
  refine pe_imp (pe_bm0 PySem.F.plainAttrs_list PySem.F.slot_list_pop PySem.F.type_list_pop mt_pop (pe_mono ho) hbase hline) fun σ H Q q => ⟨_, q, fun x H1 ⟨l, xs, y, e1, e2, e3, w⟩ => ?_⟩
  subst e1
  exact ⟨.inl ⟨rfl, _, SqL.of e2⟩, l, xs, y, rfl, rfl, e2, e3, w.raw e2 (fun _ z => by cases z)⟩
/-- list(reversed(e)) -/
def uLRev (te : TE) : TE := fun σ H Q => te σ H fun x H1 => ∃ a xs, x = .ref a ∧ (H1 a = some (.lst xs) ∨ H1 a = some (.tup xs)) ∧ Nw H1 (.lst xs.reverse) Q
theorem pe_lrev {e : Expr} {te : TE} {p p2 pos pos2 : Pos} (hc : X.calm = true) (hg : Gl X "list") (hm : X.mg "list" = none) (hg2 : Gl X "reversed") (hm2 : X.mg "reversed" = none) (he : PE X e te)
    (hs : starEach [e] X.env = (false, eval e X.env) :: starEach [] X.env := by rfl)
    (hs2 : starEach [.Call (.Name "reversed" p2) [e] [] pos2] X.env = (false, eval (.Call (.Name "reversed" p2) [e] [] pos2) X.env) :: starEach [] X.env := by rfl) :
    PE X (.Call (.Name "list" p) [.Call (.Name "reversed" p2) [e] [] pos2] [] pos) (uLRev te) := by
  refine pe_imp (pe_lstRev hc hg hm hg2 hm2 (pe_mono he) hs hs2) fun σ H Q q => ⟨_, q, fun x H1 ⟨a, xs, e1, e2, w⟩ => ⟨a, xs, e1, ?_, w.raw⟩⟩
  rcases e2 with e2 | e2
  · exact .inl (SqL.of e2)
  · exact .inr (SqT.of e2)
/-- list(e), e a list or a tuple -/
def uList (te : TE) : TE := fun σ H Q => te σ H fun x H1 => ∃ a xs, x = .ref a ∧ (H1 a = some (.lst xs) ∨ H1 a = some (.tup xs)) ∧ Nw H1 (.lst xs) Q
theorem pe_list {e : Expr} {te : TE} {p pos : Pos} (hg : Gl X "list") (hm : X.mg "list" = none) (he : PE X e te)
    (hs : starEach [e] X.env = (false, eval e X.env) :: starEach [] X.env := by rfl) :
    PE X (.Call (.Name "list" p) [e] [] pos) (uList te) := by
  refine pe_imp (pe_callTy call_list_of hg hm boot_list (pa_cons (pe_mono he) pa_nil hs) (by decide) (by decide) hs rfl) fun σ H Q q => ⟨_, q, fun x H1 ⟨a, xs, e1, e2, w⟩ => ?_⟩
  subst e1
  refine ⟨a, xs, rfl, ?_, w.raw⟩
  rcases e2 with e2 | e2
  · exact .inl (SqL.of e2)
  · exact .inr (SqT.of e2)
/-- tuple(e), e a list -/
def uTuple (te : TE) : TE := fun σ H Q => te σ H fun x H1 => ∃ a xs, x = .ref a ∧ H1 a = some (.lst xs) ∧ Nw H1 (.tup xs) Q
theorem pe_tuple {e : Expr} {te : TE} {p pos : Pos} (hg : Gl X "tuple") (hm : X.mg "tuple" = none) (he : PE X e te)
    (hs : starEach [e] X.env = (false, eval e X.env) :: starEach [] X.env := by rfl) :
    PE X (.Call (.Name "tuple" p) [e] [] pos) (uTuple te) := by
  refine pe_imp (pe_callTy call_tuple_of hg hm boot_tuple (pa_cons (pe_mono he) pa_nil hs) (by decide) (by decide) hs rfl) fun σ H Q q => ⟨_, q, fun x H1 ⟨a, xs, e1, e2, w⟩ => ?_⟩
  subst e1
  exact ⟨a, xs, rfl, .inl ⟨SqL.of e2, w.raw⟩⟩
/-- len(e), e a list or a tuple -/
def uLen (te : TE) : TE := fun σ H Q => te σ H fun x H1 => ∃ a xs, x = .ref a ∧ (H1 a = some (.lst xs) ∨ H1 a = some (.tup xs)) ∧ Q (.int ((xs.length : Nat) : Int)) H1
theorem pe_len {e : Expr} {te : TE} {p pos : Pos} (hg : Gl X "len") (hm : X.mg "len" = none) (he : PE X e te)
    (hs : starEach [e] X.env = (false, eval e X.env) :: starEach [] X.env := by rfl) :
    PE X (.Call (.Name "len" p) [e] [] pos) (uLen te) := by
  refine pe_imp (pe_callB call_len_seq hg hm PySem.boot_len (pa_cons (pe_mono he) pa_nil hs) (by decide) (by decide) hs rfl) fun σ H Q q => ⟨_, q, fun x H1 ⟨a, xs, e1, e2, w⟩ => ?_⟩
  subst e1
  refine ⟨a, xs, rfl, ?_, w⟩
  rcases e2 with e2 | e2
  · exact .inl (SqL.of e2)
  · exact .inr (SqT.of e2)
/-- len(d) -/
def uLenD (te : TE) : TE := fun σ H Q => te σ H fun x H1 => ∃ a kvs, x = .ref a ∧ H1 a = some (.dK kvs) ∧ Q (.int ((kvs.length : Nat) : Int)) H1
def uLenT (te : TE) : TE := fun σ H Q => te σ H fun x H1 => ∃ a kvs, x = .ref a ∧ H1 a = some (.dT kvs) ∧ Q (.int ((kvs.length : Nat) : Int)) H1
theorem pe_lenD {e : Expr} {te : TE} {p pos : Pos} (hg : Gl X "len") (hm : X.mg "len" = none) (he : PE X e te)
    (hs : starEach [e] X.env = (false, eval e X.env) :: starEach [] X.env := by rfl) :
    PE X (.Call (.Name "len" p) [e] [] pos) (uLenD te) := by
  refine pe_imp (pe_callB call_lenD hg hm PySem.boot_len (pa_cons (pe_mono he) pa_nil hs) (by decide) (by decide) hs rfl) fun σ H Q q => ⟨_, q, fun x H1 ⟨a, xs, e1, e2, w⟩ => ?_⟩
  subst e1
  exact ⟨a, xs, rfl, e2, w⟩
theorem pe_lenT {e : Expr} {te : TE} {p pos : Pos} (hg : Gl X "len") (hm : X.mg "len" = none) (he : PE X e te)
    (hs : starEach [e] X.env = (false, eval e X.env) :: starEach [] X.env := by rfl) :
    PE X (.Call (.Name "len" p) [e] [] pos) (uLenT te) := by
  refine pe_imp (pe_callB call_len_dT hg hm PySem.boot_len (pa_cons (pe_mono he) pa_nil hs) (by decide) (by decide) hs rfl) fun σ H Q q => ⟨_, q, fun x H1 ⟨a, xs, e1, e2, w⟩ => ?_⟩
  subst e1
  exact ⟨a, xs, rfl, e2, w⟩
end
end GT
/-! GtD: more rules with a letter for the heap behind: dicts, fields, loops, comprehensions; defs by name; terms at addresses. -/
namespace GT
open PySem L2 GL PyProof.Rows
section
variable {X : Cx}
/-! ### dicts -/
theorem dgI {H : Hp} {a : Addr} {kvs : List (L2.Key × V)} {i : Int} {o : Option V} (h : H a = some (.dK kvs)) (e : valV kvs (.inl i) = o) : DGet H a (.int i) o := .inl ⟨kvs, .inl i, .inl h, rfl, e.symm⟩
theorem dgS {H : Hp} {a : Addr} {kvs : List (L2.Key × V)} {x : Str} {o : Option V} (h : H a = some (.dK kvs)) (e : valV kvs (.inr x) = o) : DGet H a (.str x) o := .inl ⟨kvs, .inr x, .inl h, rfl, e.symm⟩
theorem dgT {H : Hp} {a b : Addr} {kvs : List (List L2.Key × V)} {k : List L2.Key} {o : Option V} (h : H a = some (.dT kvs)) (hb : H b = some (.tup (k.map kV))) (e : valV kvs k = o) : DGet H a (.ref b) o := .inr ⟨kvs, k, b, .inl h, rfl, hb, e.symm⟩
/-- d[y] = v -/
def uPutK (td ty tv : TE) : TS := fun D σ H => tv σ H fun v H1 => td σ H1 fun x H2 => ty σ H2 fun y H3 => ∃ a kvs k, x = .ref a ∧ y = kV k ∧ H3 a = some (.dK kvs) ∧ kvs.length ≤ 100000 ∧ Wr H3 a (.dK (putK kvs k v)) (D.nx σ)
def uPutT (td ty tv : TE) : TS := fun D σ H => tv σ H fun v H1 => td σ H1 fun x H2 => ty σ H2 fun y H3 => ∃ a b kvs k, x = .ref a ∧ y = .ref b ∧ H3 a = some (.dT kvs) ∧ H3 b = some (.tup (k.map kV)) ∧ kvs.length ≤ 100000 ∧ Wr H3 a (.dT (putK kvs k v)) (D.nx σ)
theorem ps_putK {o i value : Expr} {td ty tv : TE} {pos pos' : Pos} (hu : X.A.units + 1 < cLine) (ho : PE X o td) (hi : PE X i ty) (hv : PE X value tv) (hs : swapsWith value (some (.Subscript o i pos')) pos.line X.env = pure false := by rfl) :
    PS X (.Assign [.Subscript o i pos'] value pos) (uPutK td ty tv) := by
  refine ps_imp (ps_dput hu (pe_mono ho) (pe_mono hi) (pe_mono hv) hs) fun D σ H q => ⟨_, q, fun v H1 z => ⟨_, z, fun x H2 z => ⟨_, z, fun y H3 ⟨a, kvs, k, e1, e2, e3, e4, w⟩ => ?_⟩⟩⟩
  subst e2
  exact ⟨a, _, e1, DPut.k e3 (sz5 e4), w.raw e3 (fun _ z => by cases z)⟩
theorem ps_putT {o i value : Expr} {td ty tv : TE} {pos pos' : Pos} (hu : X.A.units + 1 < cLine) (ho : PE X o td) (hi : PE X i ty) (hv : PE X value tv) (hs : swapsWith value (some (.Subscript o i pos')) pos.line X.env = pure false := by rfl) :
    PS X (.Assign [.Subscript o i pos'] value pos) (uPutT td ty tv) := by
  refine ps_imp (ps_dput hu (pe_mono ho) (pe_mono hi) (pe_mono hv) hs) fun D σ H q => ⟨_, q, fun v H1 z => ⟨_, z, fun x H2 z => ⟨_, z, fun y H3 ⟨a, b, kvs, k, e1, e2, e3, eb, e4, w⟩ => ?_⟩⟩⟩
  subst e2
  exact ⟨a, _, e1, DPut.t e3 eb (sz5 e4), w.raw e3 (fun _ z => by cases z)⟩
/-- d.setdefault(k, z), k a tuple -/
def uSetdT (td ty tz : TE) : TE := fun σ H Q => td σ H fun x H1 => ∃ a kvs0, x = .ref a ∧ H1 a = some (.dT kvs0) ∧ ty σ H1 fun y H2 => tz σ H2 fun z H3 => ∃ b kvs k, y = .ref b ∧ H3 a = some (.dT kvs) ∧ H3 b = some (.tup (k.map kV)) ∧ kvs.length ≤ 100000 ∧
  (∀ v, valV kvs k = some v → Q v H3) ∧ (valV kvs k = none → Wr H3 a (.dT (putK kvs k z)) (Q z))
theorem pe_setdT {o e f : Expr} {td ty tz : TE} {apos cpos : Pos} (hu : X.A.units + 1 < cLine) (ho : PE X o td) (he : PE X e ty) (hf : PE X f tz)
    (hs : starEach [e, f] X.env = (false, eval e X.env) :: starEach [f] X.env := by rfl) (hs2 : starEach [f] X.env = (false, eval f X.env) :: starEach [] X.env := by rfl)
    (hbase : attributeBase o "setdefault" X.env (eval o X.env) = eval o X.env := by rfl)
    (hfew : ((backTo cpos (starEach [e, f] X.env)).all (fun x => !x.1) && (backToKw cpos (keywordEach [] X.env)).all (fun x => x.1.isSome)
      && decide ([e, f].length + ([] : List Keyword).length + (if ([] : List Keyword).isEmpty then 0 else 1) < 30)) = true := by rfl)
    (hline : (apos.endLine == cpos.line) = true := by rfl) (hplain : (backTo cpos (starEach [f] X.env)).any (·.1) = false := by rfl) :
    PE X (.Call (.Attribute o "setdefault" apos) [e, f] [] cpos) (uSetdT td ty tz) := by
  refine pe_imp (pe_bm PySem.F.plainAttrs_dict PySem.F.slot_dict_setdefault PySem.F.type_dict_setdefault (mt_setdT hu) (pe_mono ho) (pa_cons (pe_mono he) (pa_cons (pe_mono hf) pa_nil hs2) hs) hbase hfew hline hs hplain) fun σ H Q q => ⟨_, q, fun x H1 ⟨a, kvs0, e1, e2, z⟩ => ?_⟩
  subst e1
  refine ⟨.inr (.inr (.inl ⟨rfl, .inr ⟨_, e2⟩⟩)), _, z, fun y H2 z => ⟨_, z, fun zz H3 ⟨b, kvs, k, ey, h1, h2, h3, h4, h5⟩ => ?_⟩⟩
  subst ey
  exact ⟨a, b, zz, kvs, k, rfl, rfl, h1, h2, sz5 h3, h4, fun hn => (h5 hn).raw h1 (fun _ z => by cases z)⟩
/-- d.update(e) -/
def uUpd (td te : TE) : TE := fun σ H Q => td σ H fun x H1 => ∃ a ks0, x = .ref a ∧ H1 a = some (.dK ks0) ∧ te σ H1 fun y H2 => ∃ b ks ms, y = .ref b ∧ H2 a = some (.dK ks) ∧ H2 b = some (.dK ms) ∧ a ≠ b ∧ ks.length + ms.length ≤ 100000 ∧ Wr H2 a (.dK (mergeK ks ms)) (Q .non)
theorem pe_upd {o e : Expr} {td te : TE} {apos cpos : Pos} (ho : PE X o td) (he : PE X e te)
    (hs : starEach [e] X.env = (false, eval e X.env) :: starEach [] X.env := by rfl)
    (hbase : attributeBase o "update" X.env (eval o X.env) = eval o X.env := by rfl)
    (hfew : ((backTo cpos (starEach [e] X.env)).all (fun x => !x.1) && (backToKw cpos (keywordEach [] X.env)).all (fun x => x.1.isSome)
      && decide ([e].length + ([] : List Keyword).length + (if ([] : List Keyword).isEmpty then 0 else 1) < 30)) = true := by rfl)
    (hline : (apos.endLine == cpos.line) = true := by rfl) (hplain : (backTo cpos (starEach [] X.env)).any (·.1) = false := by rfl) :
    PE X (.Call (.Attribute o "update" apos) [e] [] cpos) (uUpd td te) := by
  refine pe_imp (pe_bm PySem.F.plainAttrs_dict PySem.F.slot_dict_update PySem.F.type_dict_update mt_update (pe_mono ho) (pa_cons (pe_mono he) pa_nil hs) hbase hfew hline hs hplain) fun σ H Q q => ⟨_, q, fun x H1 ⟨a, ks0, e1, e2, z⟩ => ?_⟩
  subst e1
  refine ⟨.inr (.inr (.inl ⟨rfl, .inl ⟨_, e2⟩⟩)), _, z, fun y H2 ⟨b, ks, ms, ey, h1, h2, hne, hl, w⟩ => ?_⟩
  subst ey
  exact ⟨a, b, ks, ms, rfl, rfl, h1, h2, hne, sz5' hl, w.raw h1 (fun _ z => by cases z)⟩
/-- list(d), d a dict -/
def uListK (te : TE) : TE := fun σ H Q => te σ H fun x H1 => ∃ a kvs, x = .ref a ∧ H1 a = some (.dK kvs) ∧ Nw H1 (.lst (kvs.map fun kv => kV kv.1)) Q
theorem pe_listK {e : Expr} {te : TE} {p pos : Pos} (hc : X.calm = true) (hg : Gl X "list") (hm : X.mg "list" = none) (he : PE X e te)
    (hs : starEach [e] X.env = (false, eval e X.env) :: starEach [] X.env := by rfl) :
    PE X (.Call (.Name "list" p) [e] [] pos) (uListK te) := by
  refine pe_imp (pe_callTy (call_list_dK hc) hg hm boot_list (pa_cons (pe_mono he) pa_nil hs) (by decide) (by decide) hs rfl) fun σ H Q q => ⟨_, q, fun x H1 ⟨a, xs, e1, e2, w⟩ => ?_⟩
  subst e1
  exact ⟨a, xs, rfl, e2, w.raw⟩
def uListT (te : TE) : TE := fun σ H Q => te σ H fun x H1 => ∃ a kvs, x = .ref a ∧ H1 a = some (.dT kvs) ∧ ∀ bs, IsKeys H1 kvs bs → Nw H1 (.lst (bs.map V.ref)) Q
theorem pe_listT {e : Expr} {te : TE} {p pos : Pos} (hc : X.calm = true) (hg : Gl X "list") (hm : X.mg "list" = none) (he : PE X e te)
    (hs : starEach [e] X.env = (false, eval e X.env) :: starEach [] X.env := by rfl) :
    PE X (.Call (.Name "list" p) [e] [] pos) (uListT te) := by
  refine pe_imp (pe_callTy (call_list_dT hc) hg hm boot_list (pa_cons (pe_mono he) pa_nil hs) (by decide) (by decide) hs rfl) fun σ H Q q => ⟨_, q, fun x H1 ⟨a, xs, e1, e2, w⟩ => ?_⟩
  subst e1
  exact ⟨a, xs, rfl, .inl e2, fun p bs hp hk => (w bs hk).raw p hp⟩
/-! ### fields -/
def uFld (K : PySem.W.Frag) (ta tv : TE) (f : Str) : TS := fun D σ H => tv σ H fun y H1 => ta σ H1 fun x H2 => ∃ a C dx fs, x = .ref a ∧ H2 a = some (.ins C dx fs) ∧ Cls K C ∧ NoAttr K C f ∧ fs.length < 1000 ∧ Wr H2 a (.ins C dx (putF f y fs)) (D.nx σ)
theorem ps_fldN {o value : Expr} {ta tv : TE} {f : Str} {pos pos' : Pos} (ha : PE X o ta) (hv : PE X value tv) (hs : swapsWith value (some (.Attribute o f pos')) pos.line X.env = pure false := by rfl) : PS X (.Assign [.Attribute o f pos'] value pos) (uFld X.K ta tv f) :=
  ps_imp (ps_fld (pe_mono ha) (pe_mono hv) hs) fun D σ H q => ⟨_, q, fun y H1 z => ⟨_, z, fun x H2 ⟨a, C, dx, fs, e1, e2, c, n, l, w⟩ => ⟨a, C, dx, fs, e1, e2, c, n, l, w.raw e2 (fun _ z => by cases z)⟩⟩⟩
/-! ### xs[i] = v, a list -/
def uSetL (to ti tv : TE) : TS := fun D σ H => tv σ H fun v H1 => to σ H1 fun x H2 => ti σ H2 fun y H3 => ∃ l xs, ∃ (n : Nat), x = .ref l ∧ y = .int n ∧ H3 l = some (.lst xs) ∧ n < xs.length ∧ Wr H3 l (.lst (xs.set n v)) (D.nx σ)
theorem ps_setL {o i value : Expr} {to ti tv : TE} {pos pos' : Pos} (ho : PE X o to) (hi : PE X i ti) (hv : PE X value tv)
    (hs : swapsWithSole [.Subscript o i pos'] value pos.line X.env = pure false := by rfl) (hw : swappedStores [.Subscript o i pos'] value X.env = pure none := by rfl)
    (hasg : ∀ v, assign (.Subscript o i pos') X.env v = (do
      let ov ← holding [v] (eval o X.env)
      let iv ← holding [v, ov] (eval i X.env)
      standAt pos'
      holding [v, ov, iv] (setItem ov iv v)
      release [v, ov, iv] []) := by intro _; rfl) :
    PS X (.Assign [.Subscript o i pos'] value pos) (uSetL to ti tv) := by
  refine ps_imp (ps_asg (pe_mono hv) (pg_sub (pe_mono ho) (pe_mono hi) set_list hasg) hs hw) fun D σ H q => ⟨_, q, fun v H1 z => ⟨_, z, fun x H2 z => ⟨_, z, fun y H3 ⟨l, xs, n, e1, e2, e3, e4, w⟩ => ?_⟩⟩⟩
  subst e1 e2
  refine ⟨l, xs, n, n, rfl, rfl, e3, ?_, w.raw e3 (fun _ z => by cases z)⟩
  unfold ixN
  rw [if_pos (by omega), if_pos (by omega), Int.toNat_natCast]
/-! ### slices of lists, tuples -/
def uSlL (te : TE) (tl th : TO) : TE := fun σ H Q => te σ H fun x H1 => tl σ H1 fun l H2 => th σ H2 fun u H3 => ∃ a xs, x = .ref a ∧ H3 a = some (.lst xs) ∧ Nw H3 (.lst (cutV xs l u)) Q
def uSlT (te : TE) (tl th : TO) : TE := fun σ H Q => te σ H fun x H1 => tl σ H1 fun l H2 => th σ H2 fun u H3 => ∃ a xs, x = .ref a ∧ H3 a = some (.tup xs) ∧ ¬ (HT.sIx xs.length 0 l = 0 ∧ HT.sIx xs.length xs.length u = xs.length) ∧ Nw H3 (.tup (cutV xs l u)) Q
theorem po_mono {e : Option Expr} {t : TO} (h : PO X e t) : PO X e (fun σ H Q => ∃ Q', t σ H Q' ∧ ∀ v H, Q' v H → Q v H) := ⟨fun pins s σ H Q I ⟨Q', q, hq⟩ => thn (h.run pins s σ H Q' I q) fun us s1 ⟨vs, H1, I1, r, z⟩ => ⟨vs, H1, I1, r, hq _ _ z⟩⟩
theorem pe_slL {e : Expr} {lo hi : Option Expr} {te : TE} {tl th : TO} {p2 pos : Pos} (he : PE X e te) (hl : PO X lo tl) (hu : PO X hi th) : PE X (.Subscript e (.Slice lo hi none p2) pos) (uSlL te tl th) :=
  pe_imp (pe_slice sl_list (pe_mono he) (po_mono hl) (po_mono hu)) fun σ H Q q => ⟨_, q, fun x H1 z => ⟨_, z, fun l H2 z => ⟨_, z, fun u H3 ⟨a, xs, e1, e2, w⟩ => ⟨a, xs, e1, SqL.of e2, w.raw⟩⟩⟩⟩
theorem pe_slT {e : Expr} {lo hi : Option Expr} {te : TE} {tl th : TO} {p2 pos : Pos} (he : PE X e te) (hl : PO X lo tl) (hu : PO X hi th) : PE X (.Subscript e (.Slice lo hi none p2) pos) (uSlT te tl th) :=
  pe_imp (pe_slice sl_tup (pe_mono he) (po_mono hl) (po_mono hu)) fun σ H Q q => ⟨_, q, fun x H1 z => ⟨_, z, fun l H2 z => ⟨_, z, fun u H3 ⟨a, xs, e1, e2, n, w⟩ => ⟨a, xs, e1, SqT.of e2, n, w.raw⟩⟩⟩⟩
/-! ### x in (written texts) -/
def inStrs (neg : Bool) (ws : List Str) : R2 := fun x y H Q => ∃ z p, x = .str z ∧ y = .ref p ∧ H p = some (.tup (ws.map V.str)) ∧ Q (.bl (if neg then !decide (z ∈ ws) else decide (z ∈ ws))) H
theorem inV_strs (z : Str) : ∀ ws : List Str, inV (.str z) (ws.map V.str) = decide (z ∈ ws)
  | [] => rfl
  | w :: ws => by
    have ih := inV_strs z ws
    unfold inV at ih ⊢
    rw [List.map_cons, List.any_cons, ih]
    have e : eqV (.str w) (.str z) = decide (w = z) := by
      first | rfl | simp [eqV]
    rw [e]
    by_cases h : w = z
    · subst h; simp
    · have h2 : ¬ z = w := fun q => h q.symm
      simp [h, h2]
theorem flat_strs : ∀ ws : List Str, (ws.map V.str).all flatV = true
  | [] => rfl
  | w :: ws => by
    rw [List.map_cons, List.all_cons, flat_strs ws]
    rfl
theorem op_inS (ws : List Str) : OpR X (compareOp .In) (inStrs false ws) := fun pins s σ H x y v u Q I rx ry ⟨z, p, e1, e2, e3, q⟩ => by
  subst e1 e2
  exact op_in_seq pins s σ H _ _ v u Q I rx ry ⟨p, _, rfl, .inr (SqT.of e3), rfl, flat_strs ws, by rw [inV_strs]; exact q⟩
theorem op_niS (ws : List Str) : OpR X (compareOp .NotIn) (inStrs true ws) := fun pins s σ H x y v u Q I rx ry ⟨z, p, e1, e2, e3, q⟩ => by
  subst e1 e2
  exact op_notIn_seq pins s σ H _ _ v u Q I rx ry ⟨p, _, rfl, .inr (SqT.of e3), rfl, flat_strs ws, by rw [inV_strs]; exact q⟩
end
/-! ### isinstance -/
/-- the built-in type of a value by name -/
inductive Ty (H : Hp) : V → String → Prop where
  | non : Ty H .non "NoneType"
  | bl (x : Bool) : Ty H (.bl x) "bool"
  | int (i : Int) : Ty H (.int i) "int"
  | str (x : Str) : Ty H (.str x) "str"
  | lst {a : Addr} {xs : List V} (e : H a = some (.lst xs)) : Ty H (.ref a) "list"
  | tup {a : Addr} {xs : List V} (e : H a = some (.tup xs)) : Ty H (.ref a) "tuple"
  | dK {a : Addr} {kvs : List (L2.Key × V)} (e : H a = some (.dK kvs)) : Ty H (.ref a) "dict"
  | dT {a : Addr} {kvs : List (List L2.Key × V)} (e : H a = some (.dT kvs)) : Ty H (.ref a) "dict"
theorem Ty.tyx {K : PySem.W.Frag} {H : Hp} {x : V} {t : String} (h : Ty H x t) : TyX K H x (.type t) := by
  cases h with
  | non => exact .base .non
  | bl x => exact .base (.bl x)
  | int i => exact .base (.int i)
  | str x => exact .base (.str x)
  | lst e => exact .base (.lst e)
  | tup e => exact .base (.tup e)
  | dK e => exact .base (.dK e)
  | dT e => exact .base (.dT e)
section
variable {X : Cx}
def uIsi (te : TE) (n : String) : TE := fun σ H Q => te σ H fun x H1 => ∃ t b, Ty H1 x t ∧ kitB t n = some b ∧ Q (.bl b) H1
theorem pe_isi {e e2 : Expr} {te : TE} {n : String} {p pos : Pos} (hg : Gl X "isinstance") (hm : X.mg "isinstance" = none) (he : PE X e te) (h2 : PE X e2 (tC (.ty n)))
    (hs : starEach [e, e2] X.env = (false, eval e X.env) :: starEach [e2] X.env := by rfl) (hs2 : starEach [e2] X.env = (false, eval e2 X.env) :: starEach [] X.env := by rfl)
    (hpl : (backTo pos (starEach [e2] X.env)).any (·.1) = false := by rfl) :
    PE X (.Call (.Name "isinstance" p) [e, e2] [] pos) (uIsi te n) := by
  refine pe_imp (pe_callB call_isi hg hm boot_isinstance (pa_cons (pe_mono he) (pa_cons (pe_mono h2) pa_nil hs2) hs) (by decide) (by decide) hs hpl) fun σ H Q q => ⟨_, q, fun x H1 ⟨t, b, ht, hb, w⟩ => ⟨_, (show tC (.ty n) σ H1 (fun z H2 => ∃ y, [x, z] = [x, y] ∧ y = .ty n ∧ H2 = H1) from ⟨_, rfl, rfl, rfl⟩), fun z H2 ⟨y, e1, e2, e3⟩ => ?_⟩⟩
  cases e1
  subst e2 e3
  exact ⟨x, .ty n, .type t, .type n, b, rfl, .ty n, ht.tyx, kit_ty hb, w⟩
end
end GT
/-! GtE: loops and comprehensions with a letter for the heap; defs and methods by name; terms at addresses. -/
namespace GT
open PySem L2 GL PyProof.Rows RT
/-- a stop for the small steps -/
structure Lp (p : Prop) : Prop where
  ex : p
section
variable {X : Cx}
/-- a block's rule, monotone in its ends -/
def moTS (t : TS) : TS := fun D σ H => ∃ D' : Ends, t D' σ H ∧ (∀ σ H, D'.nx σ H → D.nx σ H) ∧ (∀ v H, D'.rt v H → D.rt v H) ∧ (∀ σ H, D'.bk σ H → D.bk σ H) ∧ (∀ σ H, D'.ct σ H → D.ct σ H)
theorem pss_mono {b : List Stmt} {t : TS} (h : PSs X b t) : PSs X b (moTS t) := ⟨fun pins s σ H D I ⟨D', q, h1, h2, h3, h4⟩ => thn (h.run pins s σ H D' I q) fun f s1 z => by
  cases f with
  | next => obtain ⟨σ', H', I', z⟩ := z; exact ⟨σ', H', I', h1 _ _ z⟩
  | brk => obtain ⟨σ', H', I', z⟩ := z; exact ⟨σ', H', I', h3 _ _ z⟩
  | cont => obtain ⟨σ', H', I', z⟩ := z; exact ⟨σ', H', I', h4 _ _ z⟩
  | ret u => obtain ⟨v, σ', H', I', r, z⟩ := z; exact ⟨v, σ', H', I', r, h2 _ _ z⟩⟩

/-! ### loops -/
/-- for i, x in enumerate(e) -/
def uForE (o : List V → HO) (te : TE) (i j : Nat) (tb : TS) : TS := fun D σ H => te σ H fun x H1 => ∃ a xs, x = .ref a ∧ Lp (∃ Pv : Nat → L2.St → Hp → Prop, Pv 0 σ H1 ∧ (∀ m σ H, Pv m σ H → H a = some (o xs)) ∧
  (∀ m y σ H H', xs[m]? = some y → Pv m σ H → Kp [] H H' → tb { D with nx := Pv (m + 1), ct := Pv (m + 1), bk := D.nx } ((σ.set i (some (.int (m : Nat)))).set j (some y)) H') ∧ (∀ σ H, Pv xs.length σ H → D.nx σ H))
theorem gtup2 {K : PySem.W.Frag} {i j : Nat} {T : Addr} {x y : V} {σ : L2.St} {H : Hp} {Q : L2.St → Hp → Prop} (h : H T = some (.tup [x, y])) (q : Q ((σ.set i (some x)).set j (some y)) H) :
    gTup K 2 (gCons (gName i) (gCons (gName j) gNil)) (.ref T) σ H Q := ⟨T, _, rfl, SqT.of h, rfl, x, _, rfl, y, _, rfl, rfl, q⟩
theorem ps_forET {e : Expr} {te : TE} {i j : Nat} {x1 x2 : Str} {body : List Stmt} {tb : TS} {p1 p2 p3 p pos pos2 : Pos} {kk : Nat} (hp : PassesOwn (model X.prog X.w) X.A X.env X.xe) (hc : X.calm = true)
    (hg : Gl X "enumerate") (hm : X.mg "enumerate" = none) (he : PE X e te) (g1 : PG X (.Name x1 p1) (gName i)) (g2 : PG X (.Name x2 p2) (gName j)) (hb : PSs X body tb)
    (hs : starEach [e] X.env = (false, eval e X.env) :: starEach [] X.env := by rfl) :
    PS X (.For (.Tuple [.Name x1 p1, .Name x2 p2] kk p3) (.Call (.Name "enumerate" p) [e] [] pos) body [] pos2) (uForE .tup te i j tb) := by
  refine ps_imp (ps_for hp hc (pi_enumT hg hm (pa_cons (pe_mono he) pa_nil hs) hs) (pg_tup hc (pgs_cons g1 (pgs_cons g2 pgs_nil))) hb) fun D σ H q => ⟨_, q, fun x H1 ⟨a, xs, e1, ⟨⟨Pv, h0, hl, hs, hd⟩⟩⟩ => ?_⟩
  subst e1
  refine ⟨a, xs, rfl, SqT.of (hl _ _ _ h0), for_it (walk_enumT (xs := xs)) Pv h0 (fun i σ H _ q => SqT.of (hl _ _ _ q)) (fun m x σ H H' hm q y => ?_) hd⟩
  obtain ⟨T, x0, y0, rfl, n, rfl, e2, e3⟩ := y
  cases e2
  exact gtup2 upd_same (hs m y0 σ H _ e3 q (Kp.new n))
theorem ps_forEL {e : Expr} {te : TE} {i j : Nat} {x1 x2 : Str} {body : List Stmt} {tb : TS} {p1 p2 p3 p pos pos2 : Pos} {kk : Nat} (hp : PassesOwn (model X.prog X.w) X.A X.env X.xe) (hc : X.calm = true)
    (hg : Gl X "enumerate") (hm : X.mg "enumerate" = none) (he : PE X e te) (g1 : PG X (.Name x1 p1) (gName i)) (g2 : PG X (.Name x2 p2) (gName j)) (hb : PSs X body tb)
    (hs : starEach [e] X.env = (false, eval e X.env) :: starEach [] X.env := by rfl) :
    PS X (.For (.Tuple [.Name x1 p1, .Name x2 p2] kk p3) (.Call (.Name "enumerate" p) [e] [] pos) body [] pos2) (uForE .lst te i j tb) := by
  refine ps_imp (ps_for hp hc (pi_enum hg hm (pa_cons (pe_mono he) pa_nil hs) hs) (pg_tup hc (pgs_cons g1 (pgs_cons g2 pgs_nil))) hb) fun D σ H q => ⟨_, q, fun x H1 ⟨a, xs, e1, ⟨⟨Pv, h0, hl, hs, hd⟩⟩⟩ => ?_⟩
  subst e1
  refine ⟨a, xs, rfl, SqL.of (hl _ _ _ h0), for_it (walk_enum (xs := xs)) Pv h0 (fun i σ H _ q => SqL.of (hl _ _ _ q)) (fun m x σ H H' hm q y => ?_) hd⟩
  obtain ⟨T, x0, y0, rfl, n, rfl, e2, e3⟩ := y
  cases e2
  exact gtup2 upd_same (hs m y0 σ H _ e3 q (Kp.new n))
/-- for x in e, a list or a tuple -/
def uFor (o : List V → HO) (te : TE) (i : Nat) (tb : TS) : TS := fun D σ H => te σ H fun x H1 => ∃ a xs, x = .ref a ∧ Lp (∃ Pv : Nat → L2.St → Hp → Prop, Pv 0 σ H1 ∧ (∀ m σ H, Pv m σ H → H a = some (o xs)) ∧
  (∀ m y σ H, xs[m]? = some y → Pv m σ H → tb { D with nx := Pv (m + 1), ct := Pv (m + 1), bk := D.nx } (σ.set i (some y)) H) ∧ (∀ σ H, Pv xs.length σ H → D.nx σ H))
theorem ps_forL {e : Expr} {te : TE} {i : Nat} {x1 : Str} {body : List Stmt} {tb : TS} {p1 pos2 : Pos} (hp : PassesOwn (model X.prog X.w) X.A X.env X.xe) (hc : X.calm = true)
    (he : PE X e te) (g1 : PG X (.Name x1 p1) (gName i)) (hb : PSs X body tb) (hfs : ∀ x, foldedSetIterable e X.env x = pure x := by intro _; rfl) : PS X (.For (.Name x1 p1) e body [] pos2) (uFor .lst te i tb) := by
  refine ps_imp (ps_for hp hc (pi_list (pe_mono he)) g1 hb hfs) fun D σ H q => ⟨_, q, fun x H1 ⟨a, xs, e1, ⟨⟨Pv, h0, hl, hs, hd⟩⟩⟩ => ?_⟩
  subst e1
  exact ⟨a, rfl, ⟨xs, SqL.of (hl _ _ _ h0)⟩, for_list Pv h0 (fun i σ H _ q => SqL.of (hl _ _ _ q)) hs hd⟩
theorem ps_forT {e : Expr} {te : TE} {i : Nat} {x1 : Str} {body : List Stmt} {tb : TS} {p1 pos2 : Pos} (hp : PassesOwn (model X.prog X.w) X.A X.env X.xe) (hc : X.calm = true)
    (he : PE X e te) (g1 : PG X (.Name x1 p1) (gName i)) (hb : PSs X body tb) (hfs : ∀ x, foldedSetIterable e X.env x = pure x := by intro _; rfl) : PS X (.For (.Name x1 p1) e body [] pos2) (uFor .tup te i tb) := by
  refine ps_imp (ps_for hp hc (pi_tup (pe_mono he)) g1 hb hfs) fun D σ H q => ⟨_, q, fun x H1 ⟨a, xs, e1, ⟨⟨Pv, h0, hl, hs, hd⟩⟩⟩ => ?_⟩
  subst e1
  exact ⟨a, rfl, ⟨xs, SqT.of (hl _ _ _ h0)⟩, for_tup Pv h0 (fun i σ H _ q => SqT.of (hl _ _ _ q)) hs hd⟩
/-- for x in range(n); range(lo, hi) -/
def uForR (te : TE) (i : Nat) (tb : TS) : TS := fun D σ H => te σ H fun x H1 => ∃ n : Nat, x = .int n ∧ n ≤ 1000000 ∧ Lp (∃ Pv : Nat → L2.St → Hp → Prop, Pv 0 σ H1 ∧
  (∀ m σ H, m < n → Pv m σ H → tb { D with nx := Pv (m + 1), ct := Pv (m + 1), bk := D.nx } (σ.set i (some (.int (m : Nat)))) H) ∧ (∀ σ H, Pv n σ H → D.nx σ H))
theorem ps_forR {e : Expr} {te : TE} {i : Nat} {x1 : Str} {body : List Stmt} {tb : TS} {p1 p pos pos2 : Pos} (hp : PassesOwn (model X.prog X.w) X.A X.env X.xe) (hc : X.calm = true)
    (hg : Gl X "range") (hm : X.mg "range" = none) (he : PE X e te) (g1 : PG X (.Name x1 p1) (gName i)) (hb : PSs X body tb) (hs : starEach [e] X.env = (false, eval e X.env) :: starEach [] X.env := by rfl) :
    PS X (.For (.Name x1 p1) (.Call (.Name "range" p) [e] [] pos) body [] pos2) (uForR te i tb) := by
  refine ps_imp (ps_for hp hc (pi_range1 hg hm (pa_cons (pe_mono he) pa_nil hs) hs) g1 hb) fun D σ H q => ⟨_, q, fun x H1 ⟨n, e1, hn, ⟨⟨Pv, h0, hs, hd⟩⟩⟩ => ?_⟩
  subst e1
  refine ⟨n, rfl, by omega, by omega, for_range (lo := 0) (n := n) Pv h0 (fun m σ H hm q => ?_) hd⟩
  have e0 : (0 : Int) + ((m : Nat) : Int) = (m : Nat) := by omega
  rw [e0]
  exact hs m σ H hm q
def uForR2 (ta te : TE) (i : Nat) (tb : TS) : TS := fun D σ H => ta σ H fun x H1 => te σ H1 fun y H2 => ∃ (lo hi : Nat), x = .int lo ∧ y = .int hi ∧ lo ≤ 1000000 ∧ hi ≤ 1000000 ∧ Lp (∃ Pv : Nat → L2.St → Hp → Prop, Pv 0 σ H2 ∧
  (∀ m σ H, lo + m < hi → Pv m σ H → tb { D with nx := Pv (m + 1), ct := Pv (m + 1), bk := D.nx } (σ.set i (some (.int ((lo + m : Nat) : Int)))) H) ∧ (∀ σ H, Pv (hi - lo) σ H → D.nx σ H))
theorem ps_forR2 {e1 e2 : Expr} {ta te : TE} {i : Nat} {x1 : Str} {body : List Stmt} {tb : TS} {p1 p pos pos2 : Pos} (hp : PassesOwn (model X.prog X.w) X.A X.env X.xe) (hc : X.calm = true)
    (hg : Gl X "range") (hm : X.mg "range" = none) (ha : PE X e1 ta) (he : PE X e2 te) (g1 : PG X (.Name x1 p1) (gName i)) (hb : PSs X body tb)
    (hs : starEach [e1, e2] X.env = (false, eval e1 X.env) :: starEach [e2] X.env := by rfl) (hs2 : starEach [e2] X.env = (false, eval e2 X.env) :: starEach [] X.env := by rfl)
    (hs3 : starEach [e1, e2] X.env = [(false, eval e1 X.env), (false, eval e2 X.env)] := by rfl) (hs4 : starEach [e2] X.env = [(false, eval e2 X.env)] := by rfl) :
    PS X (.For (.Name x1 p1) (.Call (.Name "range" p) [e1, e2] [] pos) body [] pos2) (uForR2 ta te i tb) := by
  refine ps_imp (ps_for hp hc (pi_range2 hg hm (pa_cons (pe_mono ha) (pa_cons (pe_mono he) pa_nil hs2) hs) hs3 hs4) g1 hb) fun D σ H q => ⟨_, q, fun x H1 z => ⟨_, z, fun y H2 ⟨lo, hi, e1, e2, b1, b2, ⟨⟨Pv, h0, hs, hd⟩⟩⟩ => ?_⟩⟩
  subst e1 e2
  have en : (((hi : Nat) : Int) - ((lo : Nat) : Int)).toNat = hi - lo := by omega
  refine ⟨lo, hi, rfl, ⟨by omega, by omega, by omega, by omega⟩, ?_⟩
  rw [en]
  refine for_range (lo := (lo : Int)) (n := hi - lo) Pv h0 (fun m σ H hm q => ?_) hd
  have e0 : ((lo : Nat) : Int) + ((m : Nat) : Int) = ((lo + m : Nat) : Int) := by omega
  rw [e0]
  exact hs m σ H (by omega) q
/-- for k in d, d a dict (with tuple keys; plain keys) at slot s: within it is locked -/
def uForKT (s i : Nat) (tb : TS) : TS := fun D σ H => ∃ d kvs, σ[s]? = some (some (.ref d)) ∧ H d = some (.dT kvs) ∧ ∀ od H1, Kp [d] H H1 → H1 d = some (.frz od (.dT kvs)) → Lp (∃ Pv : Nat → L2.St → Hp → Prop, Pv 0 σ H1 ∧
  (∀ m σ H, Pv m σ H → H d = some (.frz od (.dT kvs))) ∧
  (∀ m k v q σ H, kvs[m]? = some (k, v) → H q = some (.tup (k.map kV)) → Pv m σ H → tb { nx := Pv (m + 1), ct := Pv (m + 1), bk := fun σ' H' => H' d = some (.frz od (.dT kvs)) ∧ Wr H' d (.dT kvs) (D.nx σ'), rt := fun v H' => H' d = some (.frz od (.dT kvs)) ∧ Wr H' d (.dT kvs) (D.rt v) } (σ.set i (some (.ref q))) H) ∧
  (∀ σ H, Pv kvs.length σ H → Wr H d (.dT kvs) (D.nx σ)))
theorem ps_forKT {s i : Nat} {x x1 : Str} {body : List Stmt} {tb : TS} {p1 p pos2 : Pos} (hp : PassesOwn (model X.prog X.w) X.A X.env X.xe) (hc : X.calm = true)
    (he : PE X (.Name x p) (tVar s)) (g1 : PG X (.Name x1 p1) (gName i)) (hb : PSs X body tb) :
    PS X (.For (.Name x1 p1) (.Name x p) body [] pos2) (uForKT s i tb) := by
  refine ps_imp (ps_lock (ps_for hp hc (pi_keys he) g1 (pss_mono hb))) fun D σ H ⟨d, kvs, hσ, hd, k⟩ => ?_
  refine ⟨d, _, hd, trivial, fun od => ?_⟩
  have km : Kp [d] H (upd H d (.frz od (.dT kvs))) := Kp.mut hd (fun _ z => by cases z) (by simp)
  obtain ⟨⟨Pv, h0, hl, hs, hd2⟩⟩ := k od _ km upd_same
  refine ⟨_, hσ, d, od, rfl, .inr ⟨kvs, upd_same, ?_⟩⟩
  refine for_it (g := gName i) (tb := moTS tb) (D := ⟨fun σ' H' => H' d = some (.frz od (.dT kvs)) ∧ D.nx σ' (upd H' d (.dT kvs)), fun v H' => H' d = some (.frz od (.dT kvs)) ∧ D.rt v (upd H' d (.dT kvs)), fun σ' H' => H' d = some (.frz od (.dT kvs)) ∧ D.bk σ' (upd H' d (.dT kvs)), fun σ' H' => H' d = some (.frz od (.dT kvs)) ∧ D.ct σ' (upd H' d (.dT kvs))⟩) (walk_keysT (kvs := kvs)) Pv h0 (fun m σ H _ q => hl m σ H q) (fun m x σ H H' hm q y => ?_) fun σ H q => ?_
  · obtain ⟨rfl, kk, v, qa, e1, e2, e3⟩ := y
    subst e2
    refine ⟨_, hs m kk v qa σ _ e1 e3 q, fun _ _ z => z, fun v H ⟨z1, z2⟩ => ⟨z1, z2.raw z1 (fun _ z => by cases z)⟩, fun σ' H ⟨z1, z2⟩ => ⟨z1, z2.raw z1 (fun _ z => by cases z)⟩, fun _ _ z => z⟩
  · exact ⟨hl _ _ _ q, (hd2 σ H q).raw (hl _ _ _ q) (fun _ z => by cases z)⟩
def uForKK (s i : Nat) (tb : TS) : TS := fun D σ H => ∃ d kvs, σ[s]? = some (some (.ref d)) ∧ H d = some (.dK kvs) ∧ ∀ od H1, Kp [d] H H1 → H1 d = some (.frz od (.dK kvs)) → Lp (∃ Pv : Nat → L2.St → Hp → Prop, Pv 0 σ H1 ∧
  (∀ m σ H, Pv m σ H → H d = some (.frz od (.dK kvs))) ∧
  (∀ m k v σ H, kvs[m]? = some (k, v) → Pv m σ H → tb { nx := Pv (m + 1), ct := Pv (m + 1), bk := fun σ' H' => H' d = some (.frz od (.dK kvs)) ∧ Wr H' d (.dK kvs) (D.nx σ'), rt := fun v H' => H' d = some (.frz od (.dK kvs)) ∧ Wr H' d (.dK kvs) (D.rt v) } (σ.set i (some (kV k))) H) ∧
  (∀ σ H, Pv kvs.length σ H → Wr H d (.dK kvs) (D.nx σ)))
theorem ps_forKK {s i : Nat} {x x1 : Str} {body : List Stmt} {tb : TS} {p1 p pos2 : Pos} (hp : PassesOwn (model X.prog X.w) X.A X.env X.xe) (hc : X.calm = true)
    (he : PE X (.Name x p) (tVar s)) (g1 : PG X (.Name x1 p1) (gName i)) (hb : PSs X body tb) :
    PS X (.For (.Name x1 p1) (.Name x p) body [] pos2) (uForKK s i tb) := by
  refine ps_imp (ps_lock (ps_for hp hc (pi_keys he) g1 (pss_mono hb))) fun D σ H ⟨d, kvs, hσ, hd, k⟩ => ?_
  refine ⟨d, _, hd, trivial, fun od => ?_⟩
  have km : Kp [d] H (upd H d (.frz od (.dK kvs))) := Kp.mut hd (fun _ z => by cases z) (by simp)
  obtain ⟨⟨Pv, h0, hl, hs, hd2⟩⟩ := k od _ km upd_same
  refine ⟨_, hσ, d, od, rfl, .inl ⟨kvs, upd_same, ?_⟩⟩
  refine for_it (g := gName i) (tb := moTS tb) (D := ⟨fun σ' H' => H' d = some (.frz od (.dK kvs)) ∧ D.nx σ' (upd H' d (.dK kvs)), fun v H' => H' d = some (.frz od (.dK kvs)) ∧ D.rt v (upd H' d (.dK kvs)), fun σ' H' => H' d = some (.frz od (.dK kvs)) ∧ D.bk σ' (upd H' d (.dK kvs)), fun σ' H' => H' d = some (.frz od (.dK kvs)) ∧ D.ct σ' (upd H' d (.dK kvs))⟩) (walk_keys (kvs := kvs)) Pv h0 (fun m σ H _ q => hl m σ H q) (fun m x σ H H' hm q y => ?_) fun σ H q => ?_
  · obtain ⟨rfl, kk, v, e1, e2⟩ := y
    subst e2
    refine ⟨_, hs m kk v σ _ e1 q, fun _ _ z => z, fun v H ⟨z1, z2⟩ => ⟨z1, z2.raw z1 (fun _ z => by cases z)⟩, fun σ' H ⟨z1, z2⟩ => ⟨z1, z2.raw z1 (fun _ z => by cases z)⟩, fun _ _ z => z⟩
  · exact ⟨hl _ _ _ q, (hd2 σ H q).raw (hl _ _ _ q) (fun _ z => by cases z)⟩
/-! ### while -/
def uWhile (c : TT) (tb : TS) : TS := fun D σ H => Lp (∃ W : Nat → L2.St → Hp → Prop, (∃ m, W m σ H) ∧ ∀ m σ H, W m σ H →
  c σ H fun b H1 => if b = true then ∃ N : L2.St → Hp → Prop, (∀ σ' H', N σ' H' → ∃ m', m' < m ∧ W m' σ' H') ∧ tb { D with nx := N, ct := N, bk := D.nx } σ H1 else D.nx σ H1)
theorem ps_whileN {c : Expr} {body : List Stmt} {tc : TT} {tb : TS} {pos : Pos} (hp : PassesOwn (model X.prog X.w) X.A X.env X.xe) (hc : PT X c tc) (hb : PSs X body tb) : PS X (.While c body [] pos) (uWhile tc tb) :=
  ps_imp (ps_while hp hc hb) fun _ _ _ ⟨q⟩ => q
/-! ### comprehensions without a test: Jv (how many, the items so far, the heap) -/
structure LcOk (S : List Addr) (H1 : Hp) (n : Nat) (Jv : Nat → List V → Hp → Prop) (turn : Nat → Hp → VK → Prop) (Qd : V → Hp → Prop) : Prop where
  sz : n ≤ 100000
  there : ∀ a ∈ S, H1 a ≠ none
  j0 : Jv 0 [] H1
  kp : ∀ m ys H, Jv m ys H → Kp S H1 H
  stab : ∀ D m ys H H', H1 D = none → Jv m ys H → Kp [D] H H' → Kp S H1 H' → Jv m ys H'
  len : ∀ m ys H, Jv m ys H → ys.length = m
  turn : ∀ m ys H, m < n → Jv m ys H → turn m H fun y H' => Kp S H H' ∧ Jv (m + 1) (ys ++ [y]) H'
  fin : ∀ ys H p, H1 p = none → Jv n ys H → H p = some (.lst ys) → Qd (.ref p) H
theorem lc_core' {S : List Addr} {H1 : Hp} {n : Nat} {Jv : Nat → List V → Hp → Prop} {trn : Nat → Hp → VK → Prop} {Qd : V → Hp → Prop} (L : LcOk S H1 n Jv trn Qd) {J : It} {G : Hp → Prop} {Y : Nat → Hp → V → Hp → Prop} (w : Walk J n G Y) {i : Nat} {te : TE} {σ : L2.St} {D : Addr} (hD : H1 D = none)
    (hG : ∀ m ys H, Jv m ys H → G H) (hw : ∀ x, wipe ((wipe σ [i]).set i (some x)) [i] = wipe σ [i])
    (hY : ∀ m x H H' (R : VK), m < n → Y m H x H' → trn m H R → H' = H ∧ te ((wipe σ [i]).set i (some x)) H R)
    (hmono : ∀ (σ : L2.St) H (Q Q' : VK), (∀ v H, Q v H → Q' v H) → te σ H Q → te σ H Q') :
    ∃ W : Nat → Nat → Hp → Prop, (∃ m, W 0 m (upd H1 D (.lst []))) ∧ ∀ i' m H, W i' m H →
      (J.stop i' H ∧ Qd (.ref D) H) ∨ (J.go i' H ∧ ∃ Nx : Hp → Prop, (∀ H', Nx H' → ∃ m', m' < m ∧ W (i' + 1) m' H') ∧ ∀ x H', J.yld i' H x H' → gName i x (wipe σ [i]) H' fun σ2 H2 => wipe σ2 [i] = wipe σ [i] ∧ tYes σ2 H2 fun b H3 =>
        if b = true then te σ2 H3 fun y H4 => ∃ acc, H4 D = some (.lst acc) ∧ acc.length < sizeLine ∧ Nx (upd H4 D (.lst (acc ++ [y]))) else Nx H3) := by
  have nS : D ∉ S := fun z => L.there D z hD
  have k0 : Kp S H1 (upd H1 D (.lst [])) := (Kp.new hD).any S
  refine lc_it w (fun m H => ∃ ys, Jv m ys H ∧ H D = some (.lst ys)) ⟨[], L.stab D 0 [] H1 _ hD L.j0 ((Kp.new hD).any _) k0, upd_same⟩ (fun m H _ ⟨ys, h, _⟩ => hG m ys H h) (fun m x H H' hm ⟨ys, h, hd⟩ y => ?_) fun H ⟨ys, h, hd⟩ => L.fin ys H D hD h hd
  obtain ⟨rfl, q⟩ := hY m x H H' _ hm y (L.turn m ys H hm h)
  refine ⟨hw x, ?_⟩
  unfold tYes; dsimp only
  rw [if_pos rfl]
  refine hmono _ _ _ _ (fun v H4 ⟨k4, j4⟩ => ?_) q
  have hd4 := k4.obj hd nS
  refine ⟨ys, hd4, sz5 (by rw [L.len _ _ _ h]; have := L.sz; omega), _, L.stab D _ _ H4 _ hD j4 (Kp.mut hd4 (fun _ z => by cases z) (by simp)) ?_, upd_same⟩
  refine ((L.kp _ _ _ j4).sub (S' := D :: S) (fun a z => .inl (List.mem_cons_of_mem _ z))).trans ((Kp.mut hd4 (fun _ z => by cases z) (by simp))) |>.sub fun a z => ?_
  rcases List.mem_cons.mp z with e | z
  · rw [e]; exact .inr hD
  · exact .inl z
end
/-! ### readings of expressions that are monotone: by the closure (pe_mono) -/
def clo (t : TE) : TE := fun σ H Q => ∃ Q', t σ H Q' ∧ ∀ v H, Q' v H → Q v H
theorem clo_mono (t : TE) : ∀ (σ : L2.St) H (Q Q' : VK), (∀ v H, Q v H → Q' v H) → clo t σ H Q → clo t σ H Q' := fun σ H Q Q' h ⟨R, q, hq⟩ => ⟨R, q, fun v H z => h _ _ (hq v H z)⟩
theorem clo_of {t : TE} {σ : L2.St} {H : Hp} {Q : VK} (h : t σ H Q) : clo t σ H Q := ⟨Q, h, fun _ _ z => z⟩
/-- a comprehension, as a value and as y = [..] -/
structure Lcs (X : Cx) (elt tg iter : Expr) (scope : Scope) (pos : Pos) (t : TE) : Prop where
  pe : PE X (.ListComp elt [⟨tg, iter, [], 0⟩] scope pos) t
  ps : ∀ {i : Nat} {y : Str} {py spos : Pos}, X.N.Nodup → X.N[i]? = some y → X.env.scope.names.lookup y = some .local → swapsWith (.ListComp elt [⟨tg, iter, [], 0⟩] scope pos) (some (.Name y py)) spos.line X.env = pure true →
    PS X (.Assign [.Name y py] (.ListComp elt [⟨tg, iter, [], 0⟩] scope pos) spos) (tAsg t (gName i))
theorem lcs_imp {X : Cx} {elt tg iter : Expr} {scope : Scope} {own : List (Str × Nat)} {pos : Pos} {wi : TI} {g : TG} {tt : TT} {te t' : TE} (hc : X.calm = true) (hN : X.N.Nodup) (hi : PI X tg iter wi) (ok : BlkOk X.N X.env.scope scope own)
    (hg : ∀ (s : Shared) (H : Hp) (C : Addr) (cl : List (Str × Addr)) (fp : List Addr), PG (X.blk s H scope (compEnvC scope cl C X.env) fp) tg g) (ht : ∀ (s : Shared) (H : Hp) (C : Addr) (cl : List (Str × Addr)) (fp : List Addr), PTs (X.blk s H scope (compEnvC scope cl C X.env) fp) [] tt)
    (he : ∀ (s : Shared) (H : Hp) (C : Addr) (cl : List (Str × Addr)) (fp : List Addr), PE (X.blk s H scope (compEnvC scope cl C X.env) fp) elt te) (hs : ∀ x, foldedSetIterable iter X.env x = pure x)
    (himp : ∀ σ H Q, t' σ H Q → tLc wi g tt te (own.map (·.2)) σ H Q) : Lcs X elt tg iter scope pos t' :=
  ⟨pe_imp (pe_lc hc hN hi ok hg ht he hs) himp, fun _ hy hyl hsw => ps_imp (ps_setLc hc hN hy hyl hsw hi ok hg ht he hs) fun D σ H q => himp _ _ _ q⟩
/-- [e for x in range(n)] -/
def uLcR (ta : TE) (i : Nat) (te : TE) : TE := fun σ H Q => ta σ H fun x H1 => ∃ n : Nat, x = .int n ∧ ∃ S Jv, LcOk S H1 n Jv (fun m H R => te ((wipe σ [i]).set i (some (.int (m : Nat)))) H R) Q
def uLcR2 (tl ta : TE) (i : Nat) (te : TE) : TE := fun σ H Q => tl σ H fun z H0 => ta σ H0 fun x H1 => ∃ lo n : Nat, z = .int lo ∧ x = .int ((lo + n : Nat) : Int) ∧ lo ≤ 1000000 ∧ ∃ S Jv, LcOk S H1 n Jv (fun m H R => te ((wipe σ [i]).set i (some (.int ((lo + m : Nat) : Int)))) H R) Q
/-- [e for x in xs], a list, a tuple; reversed(list) -/
def uLcL (o : List V → HO) (f : List V → List V) (tl : TE) (i : Nat) (te : TE) : TE := fun σ H Q => tl σ H fun x H1 => ∃ a xs, x = .ref a ∧ H1 a = some (o xs) ∧ ∃ S Jv, LcOk S H1 xs.length Jv (fun m H R => ∀ y, (f xs)[m]? = some y → te ((wipe σ [i]).set i (some y)) H R) Q ∧ a ∉ S
section
variable {X : Cx} {elt tg iter : Expr} {scope : Scope} {i : Nat} {x1 : Str} {pos p1 : Pos} {te : TE}
theorem wipe_ok {σ : L2.St} {i : Nat} (x : V) : wipe ((wipe σ [i]).set i (some x)) [i] = wipe σ [i] := by
  show (((σ.set i none).set i (some x)).set i none) = σ.set i none
  rw [List.set_set, List.set_set]
theorem lcR {e : Expr} {ta : TE} {p pos' : Pos} (hc : X.calm = true) (hN : X.N.Nodup) (hg : Gl X "range") (hm : X.mg "range" = none) (ha : PE X e ta) (ok : BlkOk X.N X.env.scope scope [(x1, i)])
    (hgt : ∀ (s : Shared) (H : Hp) (C : Addr) (cl : List (Str × Addr)) (fp : List Addr), PG (X.blk s H scope (compEnvC scope cl C X.env) fp) (.Name x1 p1) (gName i))
    (he : ∀ (s : Shared) (H : Hp) (C : Addr) (cl : List (Str × Addr)) (fp : List Addr), PE (X.blk s H scope (compEnvC scope cl C X.env) fp) elt te)
    (hs : starEach [e] X.env = (false, eval e X.env) :: starEach [] X.env := by rfl) (hfs : ∀ x, foldedSetIterable (.Call (.Name "range" p) [e] [] pos') X.env x = pure x := by intro _; rfl) :
    Lcs X elt (.Name x1 p1) (.Call (.Name "range" p) [e] [] pos') scope pos (uLcR ta i te) := by
  refine lcs_imp hc hN (pi_range1 hg hm (pa_cons (pe_mono ha) pa_nil hs) hs) ok hgt (fun _ _ _ _ _ => pts_nil) (fun s H C cl fp => pe_mono (he s H C cl fp)) hfs fun σ H Q q => ⟨_, q, fun x H1 ⟨n, e1, S, Jv, L⟩ => ?_⟩
  subst e1
  have hsz := L.sz
  refine ⟨n, rfl, by omega, by omega, fun D hD => ?_⟩
  rw [Int.toNat_natCast]
  refine lc_core' (te := clo te) (trn := fun m H R => te ((wipe σ [i]).set i (some (.int (m : Nat)))) H R) L walk_range hD (fun _ _ _ _ => trivial) wipe_ok (fun m x H H' R hm y t => ?_) (clo_mono te)
  obtain ⟨e2, e3⟩ := y
  subst e2 e3
  have e0 : (0 : Int) + ((m : Nat) : Int) = (m : Nat) := by omega
  exact ⟨rfl, by dsimp only; rw [e0]; exact clo_of t⟩
theorem lcR2 {e0 e : Expr} {tl ta : TE} {p pos' : Pos} (hc : X.calm = true) (hN : X.N.Nodup) (hg : Gl X "range") (hm : X.mg "range" = none) (hl : PE X e0 tl) (ha : PE X e ta) (ok : BlkOk X.N X.env.scope scope [(x1, i)])
    (hgt : ∀ (s : Shared) (H : Hp) (C : Addr) (cl : List (Str × Addr)) (fp : List Addr), PG (X.blk s H scope (compEnvC scope cl C X.env) fp) (.Name x1 p1) (gName i))
    (he : ∀ (s : Shared) (H : Hp) (C : Addr) (cl : List (Str × Addr)) (fp : List Addr), PE (X.blk s H scope (compEnvC scope cl C X.env) fp) elt te)
    (hs : starEach [e0, e] X.env = (false, eval e0 X.env) :: starEach [e] X.env := by rfl) (hs2 : starEach [e] X.env = (false, eval e X.env) :: starEach [] X.env := by rfl)
    (hs3 : starEach [e0, e] X.env = [(false, eval e0 X.env), (false, eval e X.env)] := by rfl) (hs4 : starEach [e] X.env = [(false, eval e X.env)] := by rfl)
    (hfs : ∀ x, foldedSetIterable (.Call (.Name "range" p) [e0, e] [] pos') X.env x = pure x := by intro _; rfl) :
    Lcs X elt (.Name x1 p1) (.Call (.Name "range" p) [e0, e] [] pos') scope pos (uLcR2 tl ta i te) := by
  refine lcs_imp hc hN (pi_range2 hg hm (pa_cons (pe_mono hl) (pa_cons (pe_mono ha) pa_nil hs2) hs) hs3 hs4) ok hgt (fun _ _ _ _ _ => pts_nil) (fun s H C cl fp => pe_mono (he s H C cl fp)) hfs fun σ H Q q => ⟨_, q, fun z H0 q2 => ⟨_, q2, fun x H1 ⟨lo, n, e1, e2, hlo, S, Jv, L⟩ => ?_⟩⟩
  subst e1 e2
  have hsz := L.sz
  have en : (((lo + n : Nat) : Int) - ((lo : Nat) : Int)).toNat = n := by omega
  refine ⟨lo, _, rfl, ⟨by omega, by omega, by omega, by omega⟩, fun D hD => ?_⟩
  rw [en]
  refine lc_core' (te := clo te) (trn := fun m H R => te ((wipe σ [i]).set i (some (.int ((lo + m : Nat) : Int)))) H R) L walk_range hD (fun _ _ _ _ => trivial) wipe_ok (fun m x H H' R hm y t => ?_) (clo_mono te)
  obtain ⟨e2, e3⟩ := y
  subst e2 e3
  have e0 : ((lo : Nat) : Int) + ((m : Nat) : Int) = ((lo + m : Nat) : Int) := by omega
  exact ⟨rfl, by dsimp only; rw [e0]; exact clo_of t⟩
theorem lcL {e : Expr} {tl : TE} (hc : X.calm = true) (hN : X.N.Nodup) (hl : PE X e tl) (ok : BlkOk X.N X.env.scope scope [(x1, i)])
    (hgt : ∀ (s : Shared) (H : Hp) (C : Addr) (cl : List (Str × Addr)) (fp : List Addr), PG (X.blk s H scope (compEnvC scope cl C X.env) fp) (.Name x1 p1) (gName i))
    (he : ∀ (s : Shared) (H : Hp) (C : Addr) (cl : List (Str × Addr)) (fp : List Addr), PE (X.blk s H scope (compEnvC scope cl C X.env) fp) elt te)
    (hfs : ∀ x, foldedSetIterable e X.env x = pure x := by intro _; rfl) :
    Lcs X elt (.Name x1 p1) (e) scope pos (uLcL .lst id tl i te) := by
  refine lcs_imp hc hN (pi_list (pe_mono hl)) ok hgt (fun _ _ _ _ _ => pts_nil) (fun s H C cl fp => pe_mono (he s H C cl fp)) hfs fun σ H Q q => ⟨_, q, fun z H1 ⟨a, xs, e1, e2, S, Jv, L, nS⟩ => ?_⟩
  subst e1
  refine ⟨a, rfl, ⟨xs, SqL.of e2⟩, fun D hD => ?_⟩
  refine lc_core' (te := clo te) (trn := fun m H R => ∀ y, (id xs)[m]? = some y → te ((wipe σ [i]).set i (some y)) H R) L (walk_list (xs := xs)) hD (fun m ys H j => SqL.of ((L.kp _ _ _ j).obj e2 nS)) wipe_ok (fun m x H H' R hm y t => ?_) (clo_mono te)
  obtain ⟨e3, e4⟩ := y
  subst e3
  exact ⟨rfl, clo_of (t x e4)⟩
theorem lcT {e : Expr} {tl : TE} (hc : X.calm = true) (hN : X.N.Nodup) (hl : PE X e tl) (ok : BlkOk X.N X.env.scope scope [(x1, i)])
    (hgt : ∀ (s : Shared) (H : Hp) (C : Addr) (cl : List (Str × Addr)) (fp : List Addr), PG (X.blk s H scope (compEnvC scope cl C X.env) fp) (.Name x1 p1) (gName i))
    (he : ∀ (s : Shared) (H : Hp) (C : Addr) (cl : List (Str × Addr)) (fp : List Addr), PE (X.blk s H scope (compEnvC scope cl C X.env) fp) elt te)
    (hfs : ∀ x, foldedSetIterable e X.env x = pure x := by intro _; rfl) :
    Lcs X elt (.Name x1 p1) (e) scope pos (uLcL .tup id tl i te) := by
  refine lcs_imp hc hN (pi_tup (pe_mono hl)) ok hgt (fun _ _ _ _ _ => pts_nil) (fun s H C cl fp => pe_mono (he s H C cl fp)) hfs fun σ H Q q => ⟨_, q, fun z H1 ⟨a, xs, e1, e2, S, Jv, L, nS⟩ => ?_⟩
  subst e1
  refine ⟨a, rfl, ⟨xs, SqT.of e2⟩, fun D hD => ?_⟩
  refine lc_core' (te := clo te) (trn := fun m H R => ∀ y, (id xs)[m]? = some y → te ((wipe σ [i]).set i (some y)) H R) L (walk_tup (xs := xs)) hD (fun m ys H j => SqT.of ((L.kp _ _ _ j).obj e2 nS)) wipe_ok (fun m x H H' R hm y t => ?_) (clo_mono te)
  obtain ⟨e3, e4⟩ := y
  subst e3
  exact ⟨rfl, clo_of (t x e4)⟩
theorem lcV {e : Expr} {tl : TE} {p pos' : Pos} (hc : X.calm = true) (hN : X.N.Nodup) (hg : Gl X "reversed") (hm : X.mg "reversed" = none) (hl : PE X e tl) (ok : BlkOk X.N X.env.scope scope [(x1, i)])
    (hgt : ∀ (s : Shared) (H : Hp) (C : Addr) (cl : List (Str × Addr)) (fp : List Addr), PG (X.blk s H scope (compEnvC scope cl C X.env) fp) (.Name x1 p1) (gName i))
    (he : ∀ (s : Shared) (H : Hp) (C : Addr) (cl : List (Str × Addr)) (fp : List Addr), PE (X.blk s H scope (compEnvC scope cl C X.env) fp) elt te)
    (hs : starEach [e] X.env = (false, eval e X.env) :: starEach [] X.env := by rfl) (hfs : ∀ x, foldedSetIterable (.Call (.Name "reversed" p) [e] [] pos') X.env x = pure x := by intro _; rfl) :
    Lcs X elt (.Name x1 p1) (.Call (.Name "reversed" p) [e] [] pos') scope pos (uLcL .lst List.reverse tl i te) := by
  refine lcs_imp hc hN (pi_revA hg hm (pe_mono hl) hs) ok hgt (fun _ _ _ _ _ => pts_nil) (fun s H C cl fp => pe_mono (he s H C cl fp)) hfs fun σ H Q q => ⟨_, q, fun z H1 ⟨a, xs, e1, e2, S, Jv, L, nS⟩ => ?_⟩
  subst e1
  refine ⟨a, xs, rfl, .inl ⟨SqL.of e2, fun D hD => ?_⟩⟩
  refine lc_core' (te := clo te) (trn := fun m H R => ∀ y, (xs.reverse)[m]? = some y → te ((wipe σ [i]).set i (some y)) H R) L (walk_rev (xs := xs)) hD (fun m ys H j => SqL.of ((L.kp _ _ _ j).obj e2 nS)) wipe_ok (fun m x H H' R hm y t => ?_) (clo_mono te)
  obtain ⟨e3, e4⟩ := y
  subst e3
  exact ⟨rfl, clo_of (t x (by rw [List.getElem?_reverse hm]; exact e4))⟩
end
end GT
/-! GtF: more rules; defs, methods by name; terms at addresses. -/
namespace GT
open PySem L2 GL PyProof.Rows RT
def topS (i : Nat) : Stmt := PySem.Challenge.pw_goaltrail_k45_whole_code_is_the_program.main.body.getD i (.Pass ⟨0, 0, 0, 0⟩)
/-! ### a def, a method by its name -/
structure DefAt (K : PySem.W.Frag) (mg : Str → Option Value) (x : Str) (st : Stmt) (ps : List Str) : Prop where
  ex : ∃ f fd, Fun K x x st f fd ∧ mg x = some (.ref f) ∧ Binds K fd ps []
structure MAt (K : PySem.W.Frag) (C : Addr) (m q : Str) (st : Stmt) (ps : List Str) : Prop where
  ex : ∃ f fd, Fun K m q st f fd ∧ Meth K C m f ∧ Binds K fd ps []
structure Def (P : Program) (w : World) (K : PySem.W.Frag) (mg : Str → Option Value) (base : Heap) (x : Str) (k : Nat) (ps : List Str) (sp : Sp) : Prop where
  ex : ∃ f fd, mg x = some (.ref f) ∧ PySem.W.keepIn K (.ref f) = true ∧ Binds K fd ps [] ∧ FnOk P w K mg base CX0 k f fd ps sp
structure MDef (P : Program) (w : World) (K : PySem.W.Frag) (mg : Str → Option Value) (base : Heap) (C : Addr) (m : Str) (k : Nat) (ps : List Str) (sp : Sp) : Prop where
  ex : ∃ f fd, Meth K C m f ∧ Binds K fd ps [] ∧ FnOk P w K mg base CX0 k f fd ps sp
structure MkDef (P : Program) (w : World) (K : PySem.W.Frag) (mg : Str → Option Value) (base : Heap) (x : Str) (C : Addr) (k : Nat) (ps : List Str) (sp : Sp) : Prop where
  ex : ∃ f fd, mg x = some (.ref C) ∧ Mk K C f ∧ Binds K fd ps [] ∧ FnOk P w K mg base CX0 k f fd ps sp
section
variable {P : Program} {w : World} {K : PySem.W.Frag} {mg : Str → Option Value} {base : Heap} {x m q : Str} {C : Addr} {st : Stmt} {N ps : List Str} {k j : Nat} {sp sp' : Sp}
theorem DefAt.ok (D : DefAt K mg x st ps) (S : FnScope N ps (defScope st)) (len : ∀ vs H Q E, sp vs H Q E → vs.length = ps.length)
    (hbody : ∀ (f : Addr) (cdv : Value) (A : Around) (outer : List Env) (s : Shared) (H : Hp) (vs : List V) (Q : VK) (E : XK), Room k (A.deeper (envOfC x (defScope st) s.heap.objs.size f cdv)) → sp vs H Q E →
      ∃ t, PSs (cxOf CX0 P w K mg base N x (defScope st) f cdv A outer s H E).nox (defBody st) t ∧ t { nx := fun _ H' => Q .non H', rt := Q } (start N vs) H) : Def P w K mg base x (k + 1) ps sp := by
  obtain ⟨f, fd, F, hm, b⟩ := D.ex
  exact ⟨f, fd, hm, F.kp, b, F.ok S len (hbody f)⟩
theorem MAt.ok (D : MAt K C m q st ps) (S : FnScope N ps (defScope st)) (len : ∀ vs H Q E, sp vs H Q E → vs.length = ps.length)
    (hbody : ∀ (f : Addr) (cdv : Value) (A : Around) (outer : List Env) (s : Shared) (H : Hp) (vs : List V) (Q : VK) (E : XK), Room k (A.deeper (envOfC q (defScope st) s.heap.objs.size f cdv)) → sp vs H Q E →
      ∃ t, PSs (cxOf CX0 P w K mg base N q (defScope st) f cdv A outer s H E).nox (defBody st) t ∧ t { nx := fun _ H' => Q .non H', rt := Q } (start N vs) H) : MDef P w K mg base C m (k + 1) ps sp := by
  obtain ⟨f, fd, F, hm, b⟩ := D.ex
  exact ⟨f, fd, hm, b, F.ok S len (hbody f)⟩
theorem Def.mono (D : Def P w K mg base x j ps sp) (h : j ≤ k) : Def P w K mg base x k ps sp := let ⟨f, fd, a, b, c, d⟩ := D.ex; ⟨f, fd, a, b, c, d.mono h⟩
theorem Def.imp (D : Def P w K mg base x k ps sp) (h : ∀ vs H Q E, sp' vs H Q E → sp vs H Q E) : Def P w K mg base x k ps sp' := let ⟨f, fd, a, b, c, d⟩ := D.ex; ⟨f, fd, a, b, c, d.imp h⟩
theorem MDef.mono (D : MDef P w K mg base C m j ps sp) (h : j ≤ k) : MDef P w K mg base C m k ps sp := let ⟨f, fd, a, b, d⟩ := D.ex; ⟨f, fd, a, b, d.mono h⟩
theorem MDef.imp (D : MDef P w K mg base C m k ps sp) (h : ∀ vs H Q E, sp' vs H Q E → sp vs H Q E) : MDef P w K mg base C m k ps sp' := let ⟨f, fd, a, b, d⟩ := D.ex; ⟨f, fd, a, b, d.imp h⟩
end
section
variable {X : Cx}
/-- f(a, ..) -/
def uCall (sp : Sp) (t : TA) : TE := fun σ H Q => t σ H fun vs H1 => sp vs H1 Q E0
theorem pe_cl {x : Str} {k : Nat} {ps : List Str} {sp : Sp} {e : Expr} {es : List Expr} {t : TA} {p pos : Pos} (D : Def X.prog X.w X.K X.mg X.base x k ps sp) (hr : Room k X.A) (ha : PA X (e :: es) t) (hg : Gl X x := by rfl)
    (hdb : (x == ("__debug__" : Str)) = false := by decide) (he : starEach (e :: es) X.env = (false, eval e X.env) :: starEach es X.env := by rfl) (hpl : (backTo pos (starEach es X.env)).any (·.1) = false := by rfl) :
    PE X (.Call (.Name x p) (e :: es) [] pos) (uCall sp t) := by
  obtain ⟨f, fd, hm, hk, b, F⟩ := D.ex
  exact pe_imp (pe_call F hr hg hm hk b .nil pass0 (pa_mono ha) hdb he hpl) fun σ H Q q => ⟨_, q, fun vs H1 z => by dsimp only; rw [List.append_nil]; exact z⟩
/-- o.m(a, ..), o.m() -/
def uMeth (C : Addr) (m : Str) (sp : Sp) (ta : TE) (t : TA) : TE := fun σ H Q => ta σ H fun x H1 => ∃ a dx fs, x = .ref a ∧ H1 a = some (.ins C dx fs) ∧ fs.lookup m = none ∧ t σ H1 fun vs H2 => sp (x :: vs) H2 Q E0
theorem pe_mt {C : Addr} {m : Str} {k : Nat} {ps : List Str} {sp : Sp} {o e : Expr} {es : List Expr} {ta : TE} {t : TA} {apos pos : Pos} {pl : Sem Bool} (D : MDef X.prog X.w X.K X.mg X.base C m k ps sp) (c : Cls X.K C) (ho : PE X o ta) (hr : Room k X.A) (ha : PA X (e :: es) t)
    (he : starEach (e :: es) X.env = (false, eval e X.env) :: starEach es X.env := by rfl) (hpl : (backTo pos (starEach es X.env)).any (·.1) = false := by rfl)
    (ht : eval (.Call (.Attribute o m apos) (e :: es) [] pos) X.env = (do
      let ov ← eval o X.env
      standAt apos.atName
      let (f, first) ← holding [ov] (getMethod ov m pl)
      callWith pos f first (backTo pos (starEach (e :: es) X.env)) (backToKw pos (keywordEach [] X.env))) := by rfl) :
    PE X (.Call (.Attribute o m apos) (e :: es) [] pos) (uMeth C m sp ta t) := by
  obtain ⟨f, fd, hm, b, F⟩ := D.ex
  exact pe_imp (pe_meth (pe_mono ho) c hm F hr b .nil pass0 (pa_mono ha) he hpl ht) fun σ H Q q => ⟨_, q, fun x H1 ⟨a, dx, fs, e1, e2, e3, z⟩ => ⟨a, dx, fs, e1, e2, e3, _, z, fun vs H2 y => by dsimp only; rw [List.append_nil]; exact y⟩⟩
/-- C(a, ..) -/
def uMake (C : Addr) (sp : Sp) (t : TA) : TE := fun σ H Q => t σ H fun vs H1 => ∀ x dx H2, H1 x = none → Kp [] H1 H2 → H2 x = some (.ins C dx []) → sp (.ref x :: vs) H2 (fun v H3 => v = .non ∧ Q (.ref x) H3) E0
theorem pe_mk {x : Str} {C : Addr} {k : Nat} {ps : List Str} {sp : Sp} {e : Expr} {es : List Expr} {t : TA} {p pos : Pos} (D : MkDef X.prog X.w X.K X.mg X.base x C k ps sp) (hr : Room (k + 1) X.A) (ha : PA X (e :: es) t) (hg : Gl X x := by rfl)
    (hdb : (x == ("__debug__" : Str)) = false := by decide) (he : starEach (e :: es) X.env = (false, eval e X.env) :: starEach es X.env := by rfl) (hpl : (backTo pos (starEach es X.env)).any (·.1) = false := by rfl) :
    PE X (.Call (.Name x p) (e :: es) [] pos) (uMake C sp t) := by
  obtain ⟨f, fd, hm, M, b, F⟩ := D.ex
  refine pe_imp (pe_make M F hr hg hm b .nil pass0 (pa_mono ha) hdb he hpl) fun σ H Q q => ⟨_, q, fun vs H1 z x dx n1 n2 ne => ?_⟩
  rw [List.append_nil]
  have k1 : Kp [] H1 (upd H1 dx (.own x)) := Kp.new n2
  have n3 : upd H1 dx (.own x) x = none := by rw [upd_ne (Ne.symm ne)]; exact n1
  exact z x dx _ n1 (k1.trans (Kp.new n3)) upd_same
/-- xs + ys -/
def uCat (ta tb : TE) : TE := fun σ H Q => ta σ H fun x H1 => tb σ H1 fun y H2 => ∃ l b xs zs, x = .ref l ∧ y = .ref b ∧ H2 l = some (.lst xs) ∧ H2 b = some (.lst zs) ∧ xs.length + zs.length ≤ 100000 ∧ Nw H2 (.lst (xs ++ zs)) Q
theorem pe_cat {a b : Expr} {ta tb : TE} {pos : Pos} (ha : PE X a ta) (hb : PE X b tb) : PE X (.BinOp a .Add b pos) (uCat ta tb) :=
  pe_imp (pe_op op_cat (pe_mono ha) (pe_mono hb)) fun σ H Q q => ⟨_, q, fun x H1 z => ⟨_, z, fun y H2 ⟨l, b, xs, zs, e1, e2, e3, e4, e5, w⟩ => ⟨l, b, xs, zs, e1, e2, e3, e4, sz5' e5, w.raw⟩⟩⟩
/-- xs[::-1] -/
def uRevL (te : TE) : TE := fun σ H Q => te σ H fun x H1 => ∃ a xs, x = .ref a ∧ H1 a = some (.lst xs) ∧ Nw H1 (.lst xs.reverse) Q
theorem pe_revLN {e : Expr} {te : TE} {k : Nat} {p1 p2 p3 pos : Pos} (he : PE X e te) : PE X (.Subscript e (.Slice none none (some (.UnaryOp .USub (.Constant (.int 1) k p1) p2)) p3) pos) (uRevL te) :=
  pe_imp (pe_revL (pe_mono he)) fun σ H Q q => ⟨_, q, fun x H1 ⟨a, xs, e1, e2, w⟩ => ⟨a, xs, e1, SqL.of e2, w.raw⟩⟩
/-- xs.reverse() -/
def uReverse (to : TE) : TE := fun σ H Q => to σ H fun x H1 => ∃ l xs, x = .ref l ∧ H1 l = some (.lst xs) ∧ Wr H1 l (.lst xs.reverse) (Q .non)
theorem pe_reverse {o : Expr} {to : TE} {apos cpos : Pos} (ho : PE X o to)
    (hbase : attributeBase o "reverse" X.env (eval o X.env) = eval o X.env := by rfl) (hline : (apos.endLine == cpos.line) = true := by rfl) :
    PE X (.Call (.Attribute o "reverse" apos) [] [] cpos) (uReverse to) := by
  refine pe_imp (pe_bm0 PySem.F.plainAttrs_list PySem.F.slot_list_reverse PySem.F.type_list_reverse mt_reverse (pe_mono ho) hbase hline) fun σ H Q q => ⟨_, q, fun x H1 ⟨l, xs, e1, e2, w⟩ => ?_⟩
  subst e1
  exact ⟨.inl ⟨rfl, _, SqL.of e2⟩, l, xs, rfl, rfl, e2, w.raw e2 (fun _ z => by cases z)⟩
/-- {k: v, ..} -/
def uDisp (trs : List (TE × TE)) : TE := fun σ H Q => ∀ p H1, H p = none → Kp [] H H1 → H1 p = some (.dK []) → tPairs trs σ H1 fun ps H2 => H2 p = some (.dK []) ∧ ∃ kvs : List (L2.Key × V), ps = kvs.map (fun kv => (kV kv.1, kv.2)) ∧ kvs.length ≤ 15 ∧ Wr H2 p (.dK (mergeK [] kvs)) (Q (.ref p))
theorem tPairs_mono : ∀ (trs : List (TE × TE)) (σ : L2.St) (H : Hp) (R R' : List (V × V) → Hp → Prop), (∀ ps H, R ps H → R' ps H) → tPairs (trs.map fun t => (clo t.1, clo t.2)) σ H R → tPairs (trs.map fun t => (clo t.1, clo t.2)) σ H R'
  | [], _, _, _, _, h, q => h _ _ q
  | t :: r, σ, H, R, R', h, q => clo_mono t.1 _ _ _ _ (fun x H1 q => clo_mono t.2 _ _ _ _ (fun y H2 q => tPairs_mono r σ H2 _ _ (fun ps H3 q => h _ _ q) q) q) q
theorem tPairs_clo : ∀ (trs : List (TE × TE)) (σ : L2.St) (H : Hp) (R : List (V × V) → Hp → Prop), tPairs trs σ H R → tPairs (trs.map fun t => (clo t.1, clo t.2)) σ H R
  | [], _, _, _, q => q
  | (tk, tv) :: r, σ, H, R, q => ⟨_, q, fun x H1 q => ⟨_, q, fun y H2 q => tPairs_clo r σ H2 _ q⟩⟩
theorem pps_clo {pos : Pos} : ∀ {ks : List (Option Expr)} {vs : List Expr} {trs : List (TE × TE)}, PPs X pos ks vs trs → PPs X pos ks vs trs := fun h => h
theorem pe_dispN {pos : Pos} {keys : List (Option Expr)} {values : List Expr} {trs : List (TE × TE)} (h : PPs X pos keys values trs) (hall : keys.all (·.isSome) = true) (hl : keys.length = values.length) (h0 : keys ≠ []) (h15 : keys.length ≤ 15)
    (hmono : ∀ (σ : L2.St) (H : Hp) (R R' : List (V × V) → Hp → Prop), (∀ ps H, R ps H → R' ps H) → tPairs trs σ H R → tPairs trs σ H R' := by exact fun _ _ _ _ h q => h _ _ q) : PE X (.Dict keys values pos) (uDisp trs) :=
  pe_imp (pe_disp h hall hl h0 h15) fun σ H Q q => fun p hp => hmono _ _ _ _ (fun ps H2 ⟨e1, kvs, e2, e3, w⟩ => ⟨e1, kvs, e2, e3, w.raw e1 (fun _ z => by cases z)⟩) (q p _ hp (Kp.new hp) upd_same)
/-- t[i], t a tuple; xs[-1], t[-1] -/
def uIT (te ti : TE) : TE := fun σ H Q => te σ H fun x H1 => ti σ H1 fun y H2 => ∃ p xs, ∃ (n : Nat), ∃ v, x = .ref p ∧ y = .int n ∧ H2 p = some (.tup xs) ∧ xs[n]? = some v ∧ Q v H2
theorem pe_it {e i : Expr} {te ti : TE} {pos : Pos} (h : PE X e te) (hi : PE X i ti) (hp : PlainIx i := by exact fun _ _ => rfl) : PE X (.Subscript e i pos) (uIT te ti) := by
  refine pe_imp (pe_ix ix_tup (pe_mono h) (pe_mono hi) hp) fun σ H Q q => ⟨_, q, fun x H1 z => ⟨_, z, fun y H2 ⟨p, xs, n, v, e1, e2, e3, e4, w⟩ => ?_⟩⟩
  subst e2
  exact ⟨p, xs, n, v, e1, rfl, SqT.of e3, atI_nat e4, w⟩
def uLast (o : List V → HO) (te : TE) : TE := fun σ H Q => te σ H fun x H1 => ∃ p xs v, x = .ref p ∧ H1 p = some (o (xs ++ [v])) ∧ Q v H1
theorem pe_ixl {e : Expr} {te : TE} {k : Nat} {p1 p2 pos : Pos} (h : PE X e te) : PE X (.Subscript e (.UnaryOp .USub (.Constant (.int 1) k p1) p2) pos) (uLast .lst te) :=
  pe_imp (pe_ix ix_list (pe_mono h) (pe_un un_neg pe_int) (fun _ _ => rfl)) fun σ H Q q => ⟨_, q, fun x H1 ⟨p, xs, v, e1, e2, w⟩ => ⟨1, rfl, p, _, _, v, e1, rfl, SqL.of e2, atI_last _ _, w⟩⟩
theorem pe_ixt {e : Expr} {te : TE} {k : Nat} {p1 p2 pos : Pos} (h : PE X e te) : PE X (.Subscript e (.UnaryOp .USub (.Constant (.int 1) k p1) p2) pos) (uLast .tup te) :=
  pe_imp (pe_ix ix_tup (pe_mono h) (pe_un un_neg pe_int) (fun _ _ => rfl)) fun σ H Q q => ⟨_, q, fun x H1 ⟨p, xs, v, e1, e2, w⟩ => ⟨1, rfl, p, _, _, v, e1, rfl, SqT.of e2, atI_last _ _, w⟩⟩
theorem hu8 {A : Around} {k : Nat} (hr : Room k A) : A.units + 8 < cLine := by have := hr.un; omega
/-- y = [..], from the rule of the comprehension as an expression -/
theorem Room.lo {A : Around} {j k : Nat} (r : Room k A) (h : j ≤ k) : Room j A := r.mono h
end
/-! ### terms at addresses; f says what stands for an unknown -/
mutual
def TA (f : Str → V) (H : Hp) : V → T → Prop
  | v, .any x => ∃ a, v = .ref a ∧ H a = some (.tup [.str "any", f x])
  | v, .num n => ∃ a, v = .ref a ∧ H a = some (.tup [.str "num", .int n])
  | v, .app s ks => ∃ a b vs, v = .ref a ∧ H a = some (.tup [.str "app", .str s, .ref b]) ∧ H b = some (.tup vs) ∧ TAs f H vs ks
def TAs (f : Str → V) (H : Hp) : List V → List T → Prop
  | [], [] => True
  | v :: vs, t :: ts => TA f H v t ∧ TAs f H vs ts
  | _, _ => False
end
mutual
theorem TA.mono {f : Str → V} {S : List Addr} {H H' : Hp} (k : Kp S H H') : ∀ (t : T) (v : V), TA f H v t → TA f H' v t
  | .any x, v, ⟨a, e, h⟩ => ⟨a, e, k.tup h⟩
  | .num n, v, ⟨a, e, h⟩ => ⟨a, e, k.tup h⟩
  | .app s ks, v, ⟨a, b, vs, e, h1, h2, h3⟩ => ⟨a, b, vs, e, k.tup h1, k.tup h2, TAs.mono k ks vs h3⟩
theorem TAs.mono {f : Str → V} {S : List Addr} {H H' : Hp} (k : Kp S H H') : ∀ (ts : List T) (vs : List V), TAs f H vs ts → TAs f H' vs ts
  | [], [], _ => trivial
  | t :: ts, v :: vs, ⟨h1, h2⟩ => ⟨TA.mono k t v h1, TAs.mono k ts vs h2⟩
  | [], _ :: _, h => False.elim h
  | _ :: _, [], h => False.elim h
end
theorem TAs.len {f : Str → V} {H : Hp} : ∀ {ts : List T} {vs : List V}, TAs f H vs ts → vs.length = ts.length
  | [], [], _ => rfl
  | _ :: _, _ :: _, ⟨_, h⟩ => by rw [List.length_cons, List.length_cons, TAs.len h]
  | [], _ :: _, h => False.elim h
  | _ :: _, [], h => False.elim h
theorem TAs.get {f : Str → V} {H : Hp} : ∀ {ts : List T} {vs : List V} {i : Nat} {v : V}, TAs f H vs ts → vs[i]? = some v → ∃ t, ts[i]? = some t ∧ TA f H v t
  | t :: ts, v :: vs, 0, _, ⟨h, _⟩, e => by cases e; exact ⟨t, rfl, h⟩
  | t :: ts, v :: vs, i + 1, u, ⟨_, h⟩, e => by
    obtain ⟨t', h1, h2⟩ := TAs.get (i := i) (v := u) h (by simpa using e)
    exact ⟨t', by simpa using h1, h2⟩
  | [], [], _, _, _, e => by simp at e
  | [], _ :: _, _, _, h, _ => False.elim h
  | _ :: _, [], _, _, h, _ => False.elim h
theorem TAs.append {f : Str → V} {H : Hp} : ∀ {ts : List T} {vs : List V} {us : List T} {ws : List V}, TAs f H vs ts → TAs f H ws us → TAs f H (vs ++ ws) (ts ++ us)
  | [], [], _, _, _, h => h
  | t :: ts, v :: vs, _, _, ⟨h1, h2⟩, h => ⟨h1, TAs.append h2 h⟩
  | [], _ :: _, _, _, h, _ => False.elim h
  | _ :: _, [], _, _, h, _ => False.elim h
theorem TAs.snoc {f : Str → V} {H : Hp} {ts : List T} {vs : List V} {t : T} {v : V} (h : TAs f H vs ts) (h2 : TA f H v t) : TAs f H (vs ++ [v]) (ts ++ [t]) := h.append ⟨h2, trivial⟩
theorem TAs.split {f : Str → V} {H : Hp} : ∀ {ts us : List T} {vs : List V}, TAs f H vs (ts ++ us) → ∃ v1 v2, vs = v1 ++ v2 ∧ TAs f H v1 ts ∧ TAs f H v2 us
  | [], us, vs, h => ⟨[], vs, rfl, trivial, h⟩
  | t :: ts, us, v :: vs, ⟨h1, h2⟩ => by
    obtain ⟨v1, v2, e, a, b⟩ := TAs.split h2
    exact ⟨v :: v1, v2, by rw [e]; rfl, ⟨h1, a⟩, b⟩
  | t :: ts, us, [], h => False.elim h
theorem TAs.rev {f : Str → V} {H : Hp} : ∀ {ts : List T} {vs : List V}, TAs f H vs ts → TAs f H vs.reverse ts.reverse
  | [], [], _ => trivial
  | t :: ts, v :: vs, ⟨h1, h2⟩ => by
    rw [List.reverse_cons, List.reverse_cons]
    exact (TAs.rev h2).snoc h1
  | [], _ :: _, h => False.elim h
  | _ :: _, [], h => False.elim h
/-! as data -/
mutual
theorem TA.dp {f : Str → V} {g : Str → PyData} {K : PySem.W.Frag} {H : Hp} (hf : ∀ x, Dp K H (f x) (g x)) : ∀ (t : T) (v : V), TA f H v t → Dp K H v (t.toW g)
  | .any x, v, ⟨a, e, h⟩ => by subst e; exact .tup (SqT.of h) (.cons (.str _) (.cons (hf x) .nil))
  | .num n, v, ⟨a, e, h⟩ => by subst e; exact .tup (SqT.of h) (.cons (.str _) (.cons (.int _) .nil))
  | .app s ks, v, ⟨a, b, vs, e, h1, h2, h3⟩ => by subst e; exact .tup (SqT.of h1) (.cons (.str _) (.cons (.str _) (.cons (.tup (SqT.of h2) (TAs.dp hf ks vs h3)) .nil)))
theorem TAs.dp {f : Str → V} {g : Str → PyData} {K : PySem.W.Frag} {H : Hp} (hf : ∀ x, Dp K H (f x) (g x)) : ∀ (ts : List T) (vs : List V), TAs f H vs ts → DpAll K H vs (toWs g ts)
  | [], [], _ => .nil
  | t :: ts, v :: vs, ⟨h1, h2⟩ => .cons (TA.dp hf t v h1) (TAs.dp hf ts vs h2)
  | [], _ :: _, h => False.elim h
  | _ :: _, [], h => False.elim h
end
theorem TA.isref {f : Str → V} {H : Hp} {t : T} {v : V} (h : TA f H v t) : ∃ a xs, v = .ref a ∧ H a = some (.tup xs) := by
  cases t with
  | any x => obtain ⟨a, e, h⟩ := h; exact ⟨a, _, e, h⟩
  | num n => obtain ⟨a, e, h⟩ := h; exact ⟨a, _, e, h⟩
  | app s ks => obtain ⟨a, b, vs, e, h, _⟩ := h; exact ⟨a, _, e, h⟩
end GT
/-! GtG: what the top's text makes known; the last rules. -/
namespace GT
open PySem L2 GL PyProof.Rows RT
theorem Kp.wk {S S' : List Addr} {H H' : Hp} (k : Kp S H H') (h : ∀ a ∈ S, a ∈ S') : Kp S' H H' := k.sub fun a m => .inl (h a m)
theorem itT {b : Bool} {A B : Prop} (h : b = true) (a : A) : if b = true then A else B := by rw [if_pos h]; exact a
theorem itF {b : Bool} {A B : Prop} (h : b = false) (a : B) : if b = true then A else B := by rw [h]; exact iteF a
theorem it2 {b : Bool} {A B : Prop} (h1 : b = true → A) (h2 : b = false → B) : if b = true then A else B := by
  cases b
  · exact iteF (h2 rfl)
  · exact iteT (h1 rfl)
theorem kvS (x : Str) : V.str x = kV (.inr x) := rfl
theorem kvI (x : Int) : V.int x = kV (.inl x) := rfl
theorem cmulL {i j : Int} (h : (decide (-(2 ^ 64) < i) && decide (i < 2 ^ 64)) = true) : CMul i j := by
  rw [Bool.and_eq_true, decide_eq_true_eq, decide_eq_true_eq] at h
  exact .inl h
theorem cmulR {i j : Int} (h : (decide (-(2 ^ 64) < j) && decide (j < 2 ^ 64)) = true) : CMul i j := by
  rw [Bool.and_eq_true, decide_eq_true_eq, decide_eq_true_eq] at h
  exact .inr h
theorem cpw {i j : Int} (h : (decide (0 ≤ j) && (decide (j ≤ 1000000) && decide (i.natAbs < 2 ^ 64))) = true) : CPow i j := by
  rw [Bool.and_eq_true, Bool.and_eq_true, decide_eq_true_eq, decide_eq_true_eq, decide_eq_true_eq] at h
  exact h
theorem cdv {i j : Int} (h : (decide (0 < j) && decide (j.natAbs < 2 ^ 200)) = true) : CDivW i j := by
  rw [Bool.and_eq_true, decide_eq_true_eq, decide_eq_true_eq] at h
  exact wide_div (b := 200) h.1 h.2 (by decide) (by decide)
/-- what the walk asks of the top -/
structure Txt (K : PySem.W.Frag) (w : World) (mg : Str → Option Value) (C d : Addr) (es : Array DictEntry) (n : Nat) : Prop where
  len_ : mg "len" = none
  isinstance_ : mg "isinstance" = none
  min_ : mg "min" = none
  sum_ : mg "sum" = none
  sorted_ : mg "sorted" = none
  range_ : mg "range" = none
  enumerate_ : mg "enumerate" = none
  reversed_ : mg "reversed" = none
  list_ : mg "list" = none
  tuple_ : mg "tuple" = none
  int_ : mg "int" = none
  bool_ : mg "bool" = none
  str_ : mg "str" = none
  dict_ : mg "dict" = none
  cl : Cls K C
  nSl : NoAttr K C "slots"
  nMe : NoAttr K C "met"
  nRo : NoAttr K C "rows"
  nFr : NoAttr K C "fresh"
  mgD : mg "DEEDS" = some (.ref d)
  kd : KDict K w d es n
  hit : ∀ q : Deed, ∃ t, PySem.W.nsIn K d q.sign = some (some (.str q.word t))
  miss : ∀ z : Str, (∀ q : Deed, z ≠ q.sign) → PySem.W.nsIn K d z = some none
section
variable {X : Cx}
/-- o.m() -/
def uMeth0 (C : Addr) (m : Str) (sp : Sp) (ta : TE) : TE := fun σ H Q => ta σ H fun x H1 => ∃ a dx fs, x = .ref a ∧ H1 a = some (.ins C dx fs) ∧ fs.lookup m = none ∧ sp [x] H1 Q E0
theorem pe_mt0 {C : Addr} {m : Str} {k : Nat} {ps : List Str} {sp : Sp} {o : Expr} {ta : TE} {apos pos : Pos} {pl : Sem Bool} (D : MDef X.prog X.w X.K X.mg X.base C m k ps sp) (c : Cls X.K C) (ho : PE X o ta) (hr : Room k X.A)
    (ht : eval (.Call (.Attribute o m apos) [] [] pos) X.env = (do
      let ov ← eval o X.env
      standAt apos.atName
      let (f, first) ← holding [ov] (getMethod ov m pl)
      callWith pos f first (backTo pos (starEach [] X.env)) (backToKw pos (keywordEach [] X.env))) := by rfl) :
    PE X (.Call (.Attribute o m apos) [] [] pos) (uMeth0 C m sp ta) := by
  obtain ⟨f, fd, hm, b, F⟩ := D.ex
  refine pe_imp (pe_meth0 (pe_mono ho) c hm F hr b .nil pass0 ht) fun σ H Q q => ⟨_, q, fun x H1 ⟨a, dx, fs, e1, e2, e3, z⟩ => ⟨a, dx, fs, e1, e2, e3, ?_⟩⟩
  exact z
/-- DEEDS[e] -/
def uKd (K : PySem.W.Frag) (d : Addr) (te : TE) : TE := fun σ H Q => te σ H fun y H2 => ∃ z u0 v0, y = .str z ∧ PySem.W.nsIn K d z = some (some u0) ∧ RelV v0 u0 ∧ Q v0 H2
end
end GT
/-! GtH: small defs of the law: what is drawn. -/
namespace GT
open PySem L2 GL PyProof.Rows RT
/-! tactics: a fact of the heap by what was kept; the reading's small steps -/
local macro_rules | `(tactic| walk_at "hp") => `(tactic| first | assumption | (refine Kp.tup (by assumption) ?_; walk_at "hp") | (refine Kp.obj0 (by assumption) ?_; walk_at "hp") | (refine Kp.obj1 (by assumption) ?_ (by first | assumption | (apply Ne.symm; assumption)); walk_at "hp"))
local macro_rules | `(tactic| walk_at "go") => `(tactic| repeat (first | (refine And.intro ?_ ?_; (first | rfl | walk_at "hp" | decide | (refine Or.inl ?_; walk_at "hp") | (refine Or.inr ?_; walk_at "hp") | (refine SqL.of ?_; walk_at "hp") | exact Nat.le_of_ble_eq_true rfl | exact kvS _ | exact kvI _ | exact cmulL rfl | exact cmulR rfl | exact cpw rfl | exact cdv rfl | omega | (dsimp only; first | decide | omega))) | apply Exists.intro))
local macro_rules | `(tactic| walk_at "kp") => `(tactic| first | assumption | exact Kp.refl _ _ | (refine Kp.trans ?_ (Kp.wk (by assumption) (by simp)); walk_at "kp"))
local macro_rules | `(tactic| walk_at "nn") => `(tactic| first | assumption | (refine Kp.fr (by assumption) _ ?_; walk_at "nn"))

/-- the drawn number -/
def LeftAt (l : Addr) (H : Hp) : Prop := ∃ z : Int, H l = some (.lst [.int z])
/-! ### words -/
def Word (w : Str) : Prop := PyData.strOk w = true ∧ (∀ q : Deed, w ≠ q.sign) ∧ w ≠ "not"
/-- in the making: it begins with a letter -/
def Wd (w : Str) (n : Nat) : Prop := ∃ c r, w.cps.toList = c :: r ∧ 65 ≤ c ∧ c < 128 ∧ (∀ x ∈ r, x < 128) ∧ r.length ≤ n
theorem Wd.len {w : Str} {n : Nat} (h : Wd w n) : w.length ≤ n + 1 := by
  obtain ⟨c, r, e, _, _, _, h⟩ := h
  have : w.cps.toList.length = r.length + 1 := by rw [e]; rfl
  have h2 : w.length = w.cps.toList.length := by rw [Array.length_toList]; rfl
  omega
theorem Wd.snoc {w : Str} {n x : Nat} (h : Wd w n) (hx : x < 128) : Wd (w ++ ⟨#[x]⟩) (n + 1) := by
  obtain ⟨c, r, e, h1, h2, h3, h4⟩ := h
  refine ⟨c, r ++ [x], ?_, h1, h2, ?_, ?_⟩
  · rw [PySem.Str.cps_append, Array.toList_append, e]; rfl
  · intro y hy
    rcases List.mem_append.mp hy with hy | hy
    · exact h3 y hy
    · rw [List.mem_singleton] at hy; omega
  · rw [List.length_append]; simp; omega
theorem Wd.ok {w : Str} {n : Nat} (h : Wd w n) : PyData.strOk w = true := by
  obtain ⟨c, r, e, h1, h2, h3, h4⟩ := h
  unfold PyData.strOk
  rw [← Array.all_toList, e, List.all_eq_true]
  intro x hx
  rcases List.mem_cons.mp hx with hx | hx
  · subst hx; simp; omega
  · have := h3 x hx; simp; omega
theorem Wd.word {w : Str} {n : Nat} (h : Wd w n) (h1 : w ≠ "not") (h2 : w ≠ "keep") : Word w := by
  refine ⟨h.ok, fun q e => ?_, h1⟩
  obtain ⟨c, r, ec, hc, _⟩ := h
  cases q with
  | keep => exact h2 e
  | eq =>
    have : (Deed.eq.sign).cps.toList = [61] := by decide +kernel
    rw [e, this] at ec; injection ec with a b; omega
  | asg =>
    have : (Deed.asg.sign).cps.toList = [58, 61] := by decide +kernel
    rw [e, this] at ec; injection ec with a b; omega
  | lt =>
    have : (Deed.lt.sign).cps.toList = [60] := by decide +kernel
    rw [e, this] at ec; injection ec with a b; omega
  | le =>
    have : (Deed.le.sign).cps.toList = [60, 61] := by decide +kernel
    rw [e, this] at ec; injection ec with a b; omega
theorem word_not1 : Word (("not" : Str) ++ ("1" : Str)) := ⟨by decide +kernel, fun q => by cases q <;> decide +kernel, by decide +kernel⟩
theorem word_keep1 : Word (("keep" : Str) ++ ("1" : Str)) := ⟨by decide +kernel, fun q => by cases q <;> decide +kernel, by decide +kernel⟩
def small : Str := "abcdefghijklmnopqrstuvwxyz"
def some62 : Str := small ++ Txt.upper small ++ "0123456789"
def abet : List Nat := some62.cps.toList
theorem abet_eq : abet = [97, 98, 99, 100, 101, 102, 103, 104, 105, 106, 107, 108, 109, 110, 111, 112, 113, 114, 115, 116, 117, 118, 119, 120, 121, 122, 65, 66, 67, 68, 69, 70, 71, 72, 73, 74, 75, 76, 77, 78, 79, 80, 81, 82, 83, 84, 85, 86, 87, 88, 89, 90, 48, 49, 50, 51, 52, 53, 54, 55, 56, 57] := by decide +kernel
theorem abet_get {i : Nat} (h : i < 62) : ∃ c, abet[i]? = some c ∧ c < 128 ∧ (i < 52 → 65 ≤ c) := by
  have : ∀ i : Fin 62, ∃ c, abet[i.val]? = some c ∧ c < 128 ∧ (i.val < 52 → 65 ≤ c) := by
    rw [abet_eq]
    intro i
    have hl : i.val < [97, 98, 99, 100, 101, 102, 103, 104, 105, 106, 107, 108, 109, 110, 111, 112, 113, 114, 115, 116, 117, 118, 119, 120, 121, 122, 65, 66, 67, 68, 69, 70, 71, 72, 73, 74, 75, 76, 77, 78, 79, 80, 81, 82, 83, 84, 85, 86, 87, 88, 89, 90, 48, 49, 50, 51, 52, 53, 54, 55, 56, 57].length := i.isLt
    refine ⟨_, List.getElem?_eq_getElem hl, ?_⟩
    revert i
    decide +kernel
  exact this ⟨i, h⟩
theorem some62_len : some62.length = 62 := by decide +kernel
section
variable {P : Program} {w : World} {K : PySem.W.Frag} {mg : Str → Option Value} {base : Heap} {C d : Addr} {es : Array DictEntry} {n : Nat} {k : Nat}
abbrev s_whole : Stmt := (topS 12)
abbrev N_whole : List Str := ["_law_found"]
theorem sc_whole : FnScope N_whole ["_law_found"] (defScope s_whole) := ⟨rfl, rfl, rfl, by decide +kernel, rfl, by decide +kernel, by decide +kernel⟩

def spWhole : Sp := fun vs H Q _ => ∃ i, vs = [.int i] ∧ Q (.bl true) H
theorem ok_whole (tx : Txt K w mg C d es n) (D : DefAt K mg "_law_whole" s_whole ["_law_found"]) : Def P w K mg base "_law_whole" (k + 1) ["_law_found"] spWhole := by
  refine D.ok sc_whole (fun vs H Q E h => ?_) (fun f cdv A outer s H vs Q E hr h => ?_)
  · obtain ⟨i, rfl, _⟩ := h; rfl
  · obtain ⟨i, rfl, h⟩ := h
    have hu := hu_of hr
    refine ⟨_, (pss_one (ps_ret (pe_and (pe_isi (by rfl) tx.isinstance_ (pv 0) (pe_bltn (v := .ty "int") (by rfl) tx.int_ boot_int rfl)) (pe_one (pe_not (pe_isi (by rfl) tx.isinstance_ (pv 0) (pe_bltn (v := .ty "bool") (by rfl) tx.bool_ boot_bool rfl))))))), ?_⟩
    refine ⟨_, rfl, _, true, .int _, by decide +kernel, true, rfl, iteT ?_⟩
    refine ⟨_, rfl, _, false, .int _, by decide +kernel, false, rfl, h⟩
abbrev s_digit : Stmt := (topS 13)
abbrev N_digit : List Str := ["_law_left", "_law_many", "_law_found"]
theorem sc_digit : FnScope N_digit ["_law_left", "_law_many"] (defScope s_digit) := ⟨rfl, rfl, rfl, by decide +kernel, rfl, by decide +kernel, by decide +kernel⟩

def spDigit : Sp := fun vs H Q _ => ∃ (l : Addr) (m : Nat), vs = [.ref l, .int m] ∧ 0 < m ∧ m < 2 ^ 200 ∧ LeftAt l H ∧ ∀ (c : Nat) H', c < m → Kp [l] H H' → LeftAt l H' → Q (.int c) H'
theorem ok_digit (tx : Txt K w mg C d es n) (D : DefAt K mg "_law_digit" s_digit ["_law_left", "_law_many"]) : Def P w K mg base "_law_digit" (k + 1) ["_law_left", "_law_many"] spDigit := by
  refine D.ok sc_digit (fun vs H Q E h => ?_) (fun f cdv A outer s H vs Q E hr h => ?_)
  · obtain ⟨l, m, rfl, _⟩ := h; rfl
  · obtain ⟨l, m, rfl, hm, hm2, ⟨z, hz⟩, h⟩ := h
    have hu := hu_of hr
    refine ⟨_, (pss_cons (ps_set (i := 2) sc_digit.nd rfl (by first | exact .inl rfl | exact .inr rfl) (pe_op op_mod (pe_lc_ (n := 0) (pv 0)) (pv 1)))
      (pss_cons (ps_setL (pv 0) pe_int (pe_op op_fdivW (pe_lc_ (n := 0) (pv 0)) (pv 1)))
      (pss_one (ps_ret (pv 2))))), ?_⟩
    walk_at "go"
    · have e : CDivW z (m : Int) := wide_div (b := 200) (by omega) (by rw [Int.natAbs_natCast]; exact hm2) (by decide) (by decide)
      refine ⟨e, _, rfl, l, [.int z], 0, rfl, rfl, hz, Nat.zero_lt_one, fun H2 k2 h2 => ?_⟩
      refine ⟨_, rfl, ?_⟩
      have h0 : (0 : Int) ≤ z % (m : Int) := Int.emod_nonneg _ (by omega)
      have h1 : z % (m : Int) < m := Int.emod_lt_of_pos _ (by omega)
      have e2 : z % (m : Int) = (((z % (m : Int)).toNat : Nat) : Int) := by omega
      show Q (.int (z % (m : Int))) H2
      rw [e2]
      exact h _ _ (by omega) k2 ⟨_, h2⟩
abbrev s_cell_at : Stmt := (topS 14)
abbrev N_cell_at : List Str := ["_law_script", "_law_k"]
theorem sc_cell_at : FnScope N_cell_at ["_law_script", "_law_k"] (defScope s_cell_at) := ⟨rfl, rfl, rfl, by decide +kernel, rfl, by decide +kernel, by decide +kernel⟩

def spCellAt (K : PySem.W.Frag) : Sp := fun vs H Q _ => ∃ (a : Addr) (ns : List Int) (i : Nat), vs = [.ref a, .int i] ∧ SqL K H a (ns.map .int) ∧ ∀ z, Q (.int z) H
theorem ok_cell_at (tx : Txt K w mg C d es n) (D : DefAt K mg "_law_cell_at" s_cell_at ["_law_script", "_law_k"]) : Def P w K mg base "_law_cell_at" (k + 1) ["_law_script", "_law_k"] (spCellAt K) := by
  refine D.ok sc_cell_at (fun vs H Q E h => ?_) (fun f cdv A outer s H vs Q E hr h => ?_)
  · obtain ⟨l, ns, m, rfl, _⟩ := h; rfl
  · obtain ⟨l, ns, m, rfl, hs, h⟩ := h
    have hu := hu_of hr
    refine ⟨_, (pss_cons (ps_if (pt_cmpR op_lt (pv 1) (pe_callB call_len_seq (by rfl) tx.len_ PySem.boot_len (pa_cons (pv 0) pa_nil)) (nomark _)) (pss_one (ps_ret (pe_ix ix_list (pv 0) (pv 1) (fun _ _ => rfl)))) pss_nil)
      (pss_one (ps_ret pe_int))), ?_⟩
    refine ⟨_, rfl, _, rfl, _, _, rfl, .inl hs, _, _, rfl, rfl, _, rfl, it2 (fun c => ?_) (fun _ => h _)⟩
    have c : (m : Int) < ((ns.map V.int).length : Nat) := by simpa using c
    have c : m < ns.length := by simpa using c
    exact ⟨_, rfl, _, rfl, _, _, _, .int ns[m], rfl, rfl, hs, atI_nat (by simp [c]), h _⟩
abbrev s_free_word : Stmt := (topS 15)
abbrev N_free_word : List Str := ["_law_left", "_law_first", "_law_small", "_law_some", "_law_word", "_law_k"]
theorem sc_free_word : FnScope N_free_word ["_law_left", "_law_first"] (defScope s_free_word) := ⟨rfl, rfl, rfl, by decide +kernel, rfl, by decide +kernel, by decide +kernel⟩

def spFreeWord : Sp := fun vs H Q _ => ∃ (l : Addr) (f : Nat), vs = [.ref l, .int f] ∧ f ≤ 26 ∧ LeftAt l H ∧ ∀ x H', Word x → Kp [l] H H' → LeftAt l H' → Q (.str x) H'
theorem ok_free_word (tx : Txt K w mg C d es n) (d_digit : Def P w K mg base "_law_digit" k ["_law_left", "_law_many"] spDigit) (D : DefAt K mg "_law_free_word" s_free_word ["_law_left", "_law_first"]) : Def P w K mg base "_law_free_word" (k + 1) ["_law_left", "_law_first"] spFreeWord := by
  refine D.ok sc_free_word (fun vs H Q E h => ?_) (fun f cdv A outer s H vs Q E hr h => ?_)
  · obtain ⟨l, m, rfl, _⟩ := h; rfl
  · obtain ⟨l, m, rfl, hm, hl, h⟩ := h
    have hu := hu_of hr
    refine ⟨_, (pss_cons (ps_set (i := 2) sc_free_word.nd rfl (by first | exact .inl rfl | exact .inr rfl) pe_str)
      (pss_cons (ps_set (i := 3) sc_free_word.nd rfl (by first | exact .inl rfl | exact .inr rfl) (pe_op op_add_str (pe_op op_add_str (pv 2) (pe_m0 PySem.F.slot_str_upper PySem.F.type_str_upper mt_upper (pv 2))) pe_str))
      (pss_cons (ps_set (i := 4) sc_free_word.nd rfl (by first | exact .inl rfl | exact .inr rfl) (pe_ix ix_str (pv 3) (pe_op op_add (pv 1) (pe_cl d_digit (hr.mono (by omega)) (pa_cons (pv 0) (pa_cons pe_int pa_nil)))) (fun _ _ => rfl)))
      (pss_cons (ps_forR PassesOwn.never rfl (by rfl) tx.range_ (pe_cl d_digit (hr.mono (by omega)) (pa_cons (pv 0) (pa_cons pe_int pa_nil))) (pg_name (i := 5) sc_free_word.nd rfl (by first | exact .inl rfl | exact .inr rfl)) (pss_one (ps_set (i := 4) sc_free_word.nd rfl (by first | exact .inl rfl | exact .inr rfl) (pe_op op_add_str (pv 4) (pe_ix ix_str (pv 3) (pe_cl d_digit (hr.mono (by omega)) (pa_cons (pv 0) (pa_cons pe_int pa_nil))) (fun _ _ => rfl))))))
      (pss_cons (ps_if (pt_cmpR (op_inS ["not", "keep"]) (pv 4) (pe_tupN (pa_cons pe_str (pa_cons pe_str pa_nil))) (by rfl)) (pss_one (ps_ret (pe_op op_add_str (pv 4) pe_str))) pss_nil)
      (pss_one (ps_ret (pv 4)))))))), ?_⟩
    refine ⟨_, rfl, _, rfl, ⟨_, rfl⟩, small, rfl, rfl, by decide +kernel, _, _, rfl, rfl, by decide +kernel, _, _, rfl, rfl, by decide +kernel, ?_⟩
    refine ⟨_, rfl, _, rfl, _, rfl, l, 26, rfl, by decide, by decide, hl, fun c H1 hc k1 l1 => ?_⟩
    obtain ⟨g, g1, g2, g3⟩ := abet_get (i := m + c) (by omega)
    refine ⟨_, _, rfl, rfl, some62, _, g, rfl, rfl, (by rw [some62_len]; decide), (by
      have e : ((m : Int) + (c : Int)) = ((m + c : Nat) : Int) := by omega
      show atI abet ((m : Int) + (c : Int)) = some g
      rw [e]; exact atI_nat g1), ?_⟩
    refine ⟨_, rfl, l, 12, rfl, by decide, by decide, l1, fun c2 H2 hc2 k2 l2 => ⟨c2, rfl, by omega, ⟨⟨fun j σ H => j ≤ c2 ∧ Kp [l] H2 H ∧ LeftAt l H ∧ ∃ x o, Wd x j ∧ σ = [some (.ref l), some (.int m), some (.str small), some (.str some62), some (.str x), o], ⟨by omega, Kp.refl _ _, l2, _, none, ⟨g, [], rfl, g3 (by omega), g2, by simp, by simp⟩, rfl⟩, ?_, ?_⟩⟩⟩⟩
    · rintro j σ H3 hj ⟨hj2, k3, l3, x, o, hx, rfl⟩
      refine ⟨_, rfl, _, rfl, _, rfl, l, 62, rfl, by decide, by decide, l3, fun c4 H4 hc4 k4 l4 => ?_⟩
      obtain ⟨g, g1, g2, g3⟩ := abet_get (i := c4) hc4
      have hxl := hx.len
      refine ⟨some62, _, g, rfl, rfl, (by rw [some62_len]; decide), atI_nat g1, _, _, rfl, rfl, ?_, hj, k3.trans k4, l4, _, _, hx.snoc g2, rfl⟩
      show x.length + 1 ≤ sizeLine
      rw [sizeLine_eq]; omega
    · rintro σ H3 ⟨hj2, k3, l3, x, o, hx, rfl⟩
      have kk : Kp [l] H H3 := by walk_at "kp"
      refine ⟨_, rfl, by decide, fun p H4 n4 k4 h4 => ⟨_, p, rfl, rfl, h4, _, rfl, it2 (fun c => ?_) (fun c => ?_)⟩⟩
      · have l4 : LeftAt l H4 := l3.imp fun z e => k4.obj0 e
        have kk4 : Kp [l] H H4 := kk.trans (k4.any _)
        have c : x ∈ (["not", "keep"] : List Str) := by simpa using c
        have hxl := hx.len
        refine ⟨_, rfl, _, _, rfl, rfl, ?_, ?_⟩
        · show x.length + 1 ≤ sizeLine
          rw [sizeLine_eq]; omega
        · rcases List.mem_cons.mp c with c | c
          · subst c; exact h _ _ word_not1 kk4 l4
          · rw [List.mem_singleton] at c
            subst c; exact h _ _ word_keep1 kk4 l4
      · have l4 : LeftAt l H4 := l3.imp fun z e => k4.obj0 e
        have kk4 : Kp [l] H H4 := kk.trans (k4.any _)
        have c : x ∉ (["not", "keep"] : List Str) := by simpa using c
        refine ⟨_, rfl, h _ _ (hx.word (fun e => c ?_) (fun e => c ?_)) kk4 l4⟩
        · rw [e]; exact List.mem_cons_self
        · rw [e]; exact List.mem_cons_of_mem _ List.mem_cons_self
end
end GT
/-! GtI: defs of the law: what is drawn, part 2. -/
namespace GT
open PySem L2 GL PyProof.Rows RT
/-! tactics: a fact of the heap by what was kept; the reading's small steps -/
local macro_rules | `(tactic| walk_at "hp") => `(tactic| first | assumption | (refine Kp.tup (by assumption) ?_; walk_at "hp") | (refine Kp.obj0 (by assumption) ?_; walk_at "hp") | (refine Kp.obj1 (by assumption) ?_ (by first | assumption | (apply Ne.symm; assumption)); walk_at "hp"))
local macro_rules | `(tactic| walk_at "go") => `(tactic| repeat (first | (refine And.intro ?_ ?_; (first | rfl | walk_at "hp" | decide | (refine Or.inl ?_; walk_at "hp") | (refine Or.inr ?_; walk_at "hp") | (refine SqL.of ?_; walk_at "hp") | exact Nat.le_of_ble_eq_true rfl | exact kvS _ | exact kvI _ | exact cmulL rfl | exact cmulR rfl | exact cpw rfl | exact cdv rfl | omega | (dsimp only; first | decide | omega))) | apply Exists.intro))
local macro_rules | `(tactic| walk_at "kp") => `(tactic| first | assumption | exact Kp.refl _ _ | (refine Kp.trans ?_ (Kp.wk (by assumption) (by simp)); walk_at "kp"))
local macro_rules | `(tactic| walk_at "nn") => `(tactic| first | assumption | (refine Kp.fr (by assumption) _ ?_; walk_at "nn"))

theorem vi {i j : Int} (h : i = j) : V.int i = V.int j := congrArg _ h
theorem LeftAt.keep {l : Addr} {H H' : Hp} (h : LeftAt l H) (k : Kp [] H H') : LeftAt l H' := h.imp fun z e => k.obj0 e
theorem LeftAt.keep1 {l a : Addr} {H H' : Hp} (h : LeftAt l H) (k : Kp [a] H H') (n : l ≠ a) : LeftAt l H' := h.imp fun z e => k.obj1 e n
/-- a comprehension: what it keeps, what it gathers -/
theorem LcOk.mk' {S : List Addr} {H1 : Hp} {n : Nat} (R : Nat → List V → Hp → Prop) {trn : Nat → Hp → VK → Prop} {Qd : V → Hp → Prop} (sz : n ≤ 100000) (there : ∀ a ∈ S, H1 a ≠ none) (r0 : R 0 [] H1)
    (stab : ∀ m ys H H' D, H1 D = none → Kp S H1 H → R m ys H → Kp [D] H H' → R m ys H') (len : ∀ m ys H, R m ys H → ys.length = m)
    (turn : ∀ m ys H, m < n → Kp S H1 H → R m ys H → trn m H fun y H' => Kp S H H' ∧ Kp S H1 H' ∧ R (m + 1) (ys ++ [y]) H')
    (fin : ∀ ys H p, H1 p = none → Kp S H1 H → R n ys H → H p = some (.lst ys) → Qd (.ref p) H) : LcOk S H1 n (fun m ys H => Kp S H1 H ∧ R m ys H) trn Qd :=
  { sz := sz, there := there, j0 := ⟨Kp.refl _ _, r0⟩, kp := fun _ _ _ j => j.1, stab := fun D m ys H H' hd j k k' => ⟨k', stab m ys H H' D hd j.1 j.2 k⟩, len := fun m ys H j => len m ys H j.2,
    turn := fun m ys H hm j => turn m ys H hm j.1 j.2, fin := fun ys H p hp j e => fin ys H p hp j.1 j.2 e }
theorem cut_int (ns : List Int) (lo hi : Option Int) : ∃ ms : List Int, cutV (ns.map V.int) lo hi = ms.map V.int := by
  unfold cutV
  rw [← List.map_drop, ← List.map_take]
  exact ⟨_, rfl⟩
section
variable {P : Program} {w : World} {K : PySem.W.Frag} {mg : Str → Option Value} {base : Heap} {C d : Addr} {es : Array DictEntry} {n : Nat} {k : Nat}
abbrev s_big : Stmt := (topS 16)
abbrev N_big : List Str := ["_law_script", "_law_k", "_law_cell", "_law_number", "_law_big_here", "_law_j"]
theorem sc_big : FnScope N_big ["_law_script", "_law_k"] (defScope s_big) := ⟨rfl, rfl, rfl, by decide +kernel, rfl, by decide +kernel, by decide +kernel⟩

def spBig (K : PySem.W.Frag) : Sp := fun vs H Q _ => ∃ (a : Addr) (ns : List Int) (i : Nat), vs = [.ref a, .int i] ∧ SqL K H a (ns.map .int) ∧ ∀ z H', Kp [] H H' → Q (.int z) H'
theorem ok_big (tx : Txt K w mg C d es n) (d_cell_at : Def P w K mg base "_law_cell_at" k ["_law_script", "_law_k"] (spCellAt K)) (D : DefAt K mg "_law_big" s_big ["_law_script", "_law_k"]) : Def P w K mg base "_law_big" (k + 1) ["_law_script", "_law_k"] (spBig K) := by
  refine D.ok sc_big (fun vs H Q E h => ?_) (fun f cdv A outer s H vs Q E hr h => ?_)
  · obtain ⟨l, ns, m, rfl, _⟩ := h; rfl
  · obtain ⟨l, ns, m, rfl, hs, h⟩ := h
    have hu := hu_of hr
    refine ⟨_, (pss_cons (ps_set (i := 2) sc_big.nd rfl (by first | exact .inl rfl | exact .inr rfl) (pe_cl d_cell_at (hr.mono (by omega)) (pa_cons (pv 0) (pa_cons (pv 1) pa_nil))))
      (pss_cons (ps_set (i := 3) sc_big.nd rfl (by first | exact .inl rfl | exact .inr rfl) (pe_op op_mod (pe_op op_mul (pe_op op_add (pe_op op_add (pe_op op_mod (pv 2) (pe_op op_pow pe_int pe_int)) (pe_op op_mul pe_int (pv 1))) (pe_callB (cr_sum rfl) (by rfl) tx.sum_ boot_sum (pa_cons (pe_slice sl_list (pv 0) po_none (po_some pe_int)) pa_nil))) pe_int) pe_int))
      (pss_cons (ps_set (i := 4) sc_big.nd rfl (by first | exact .inl rfl | exact .inr rfl) pe_int)
      (pss_cons (ps_forR PassesOwn.never rfl (by rfl) tx.range_ pe_int (pg_name (i := 5) sc_big.nd rfl (by first | exact .inl rfl | exact .inr rfl)) (pss_cons (ps_set (i := 3) sc_big.nd rfl (by first | exact .inl rfl | exact .inr rfl) (pe_op op_mod (pe_op op_add (pe_op op_add (pe_op op_mul (pv 3) pe_int) (pe_op op_mul pe_int (pv 5))) (pv 1)) pe_int))
      (pss_one (ps_set (i := 4) sc_big.nd rfl (by first | exact .inl rfl | exact .inr rfl) (pe_op op_add (pe_op op_mul (pv 4) pe_int) (pe_op op_mod (pe_op op_fdivW (pv 3) pe_int) pe_int))))))
      (pss_one (ps_ret (pv 4))))))), ?_⟩
    refine ⟨_, rfl, _, rfl, l, ns, m, rfl, hs, fun z => ?_⟩
    walk_at "go"
    intro p hp
    obtain ⟨ms, em⟩ := cut_int ns none (some 3)
    rw [em]
    walk_at "go"
    refine ⟨.inl (.inl upd_same), ?_⟩
    walk_at "go"
    refine ⟨⟨fun j σ H' => Kp [] H H' ∧ ∃ x y z o, σ = [some (.ref l), some (.int m), some (.int z), some (.int x), some (.int y), o], ⟨Kp.new hp, _, _, _, _, rfl⟩, ?_, ?_⟩⟩
    · rintro j σ H' hj ⟨k1, x, y, z, o, rfl⟩
      walk_at "go"
      exact rfl
    · rintro σ H' ⟨k1, x, y, z, o, rfl⟩
      exact ⟨_, rfl, h _ _ k1⟩
abbrev s_drawn : Stmt := (topS 17)
abbrev N_drawn : List Str := ["_law_script", "_law_k"]
theorem sc_drawn : FnScope N_drawn ["_law_script", "_law_k"] (defScope s_drawn) := ⟨rfl, rfl, rfl, by decide +kernel, rfl, by decide +kernel, by decide +kernel⟩

theorem ok_drawn (tx : Txt K w mg C d es n) (d_cell_at : Def P w K mg base "_law_cell_at" k ["_law_script", "_law_k"] (spCellAt K)) (d_big : Def P w K mg base "_law_big" k ["_law_script", "_law_k"] (spBig K)) (D : DefAt K mg "_law_drawn" s_drawn ["_law_script", "_law_k"]) : Def P w K mg base "_law_drawn" (k + 1) ["_law_script", "_law_k"] (spBig K) := by
  refine D.ok sc_drawn (fun vs H Q E h => ?_) (fun f cdv A outer s H vs Q E hr h => ?_)
  · obtain ⟨l, ns, m, rfl, _⟩ := h; rfl
  · obtain ⟨l, ns, m, rfl, hs, h⟩ := h
    have hu := hu_of hr
    refine ⟨_, (pss_cons (ps_if (pt_cmpR op_eq (pe_op op_mod (pe_cl d_cell_at (hr.mono (by omega)) (pa_cons (pv 0) (pa_cons pe_int pa_nil))) pe_int) pe_int (nomark _)) (pss_one (ps_ret (pe_cl d_cell_at (hr.mono (by omega)) (pa_cons (pv 0) (pa_cons (pv 1) pa_nil))))) pss_nil)
      (pss_one (ps_ret (pe_cl d_big (hr.mono (by omega)) (pa_cons (pv 0) (pa_cons (pv 1) pa_nil)))))), ?_⟩
    refine ⟨_, rfl, l, ns, 0, rfl, hs, fun z => ?_⟩
    walk_at "go"
    refine it2 (fun _ => ?_) (fun _ => ?_)
    · exact ⟨_, rfl, _, rfl, l, ns, m, rfl, hs, fun z => h _ _ (Kp.refl _ _)⟩
    · exact ⟨_, rfl, _, rfl, l, ns, m, rfl, hs, fun z H' k => h _ _ k⟩
abbrev s_free_number : Stmt := (topS 19)
abbrev N_free_number : List Str := ["_law_left"]
theorem sc_free_number : FnScope N_free_number ["_law_left"] (defScope s_free_number) := ⟨rfl, rfl, rfl, by decide +kernel, rfl, by decide +kernel, by decide +kernel⟩

def spLeftV (R : V → Prop) : Sp := fun vs H Q _ => ∃ (l : Addr), vs = [.ref l] ∧ LeftAt l H ∧ ∀ x H', R x → Kp [l] H H' → LeftAt l H' → Q x H'
theorem ok_free_number (tx : Txt K w mg C d es n) (d_digit : Def P w K mg base "_law_digit" k ["_law_left", "_law_many"] spDigit) (D : DefAt K mg "_law_free_number" s_free_number ["_law_left"]) : Def P w K mg base "_law_free_number" (k + 1) ["_law_left"] (spLeftV fun v => ∃ i, v = .int i) := by
  refine D.ok sc_free_number (fun vs H Q E h => ?_) (fun f cdv A outer s H vs Q E hr h => ?_)
  · obtain ⟨l, rfl, _⟩ := h; rfl
  · obtain ⟨l, rfl, hl, h⟩ := h
    have hu := hu_of hr
    refine ⟨_, (pss_cons (ps_if (pt_cmpR op_eq (pe_cl d_digit (hr.mono (by omega)) (pa_cons (pv 0) (pa_cons pe_int pa_nil))) pe_int (nomark _)) (pss_one (ps_ret (pe_op op_sub (pe_cl d_digit (hr.mono (by omega)) (pa_cons (pv 0) (pa_cons pe_int pa_nil))) pe_int))) pss_nil)
      (pss_one (ps_ret (pe_op op_sub (pe_cl d_digit (hr.mono (by omega)) (pa_cons (pv 0) (pa_cons (pe_op op_sub (pe_op op_mul pe_int (pe_op op_pow pe_int pe_int)) pe_int) pa_nil))) (pe_op op_sub (pe_op op_pow pe_int pe_int) pe_int))))), ?_⟩
    refine ⟨_, rfl, l, 2, rfl, by decide, by decide, hl, fun c H1 hc k1 l1 => ?_⟩
    walk_at "go"
    refine it2 (fun _ => ?_) (fun _ => ?_)
    · refine ⟨_, rfl, l, 9, rfl, by decide, by decide, l1, fun c H2 hc k2 l2 => ?_⟩
      walk_at "go"
      exact h _ _ ⟨_, rfl⟩ (k1.trans k2) l2
    · walk_at "go"
      intro c H2 hc k2 l2
      walk_at "go"
      exact h _ _ ⟨_, rfl⟩ (k1.trans k2) l2
abbrev s_free_mark : Stmt := (topS 20)
abbrev N_free_mark : List Str := ["_law_left", "_law_mark", "_law_k"]
theorem sc_free_mark : FnScope N_free_mark ["_law_left"] (defScope s_free_mark) := ⟨rfl, rfl, rfl, by decide +kernel, rfl, by decide +kernel, by decide +kernel⟩

theorem ok_free_mark (tx : Txt K w mg C d es n) (d_digit : Def P w K mg base "_law_digit" k ["_law_left", "_law_many"] spDigit) (D : DefAt K mg "_law_free_mark" s_free_mark ["_law_left"]) : Def P w K mg base "_law_free_mark" (k + 1) ["_law_left"] (spLeftV fun v => ∃ x, v = .str x ∧ PyData.strOk x = true) := by
  refine D.ok sc_free_mark (fun vs H Q E h => ?_) (fun f cdv A outer s H vs Q E hr h => ?_)
  · obtain ⟨l, rfl, _⟩ := h; rfl
  · obtain ⟨l, rfl, hl, h⟩ := h
    have hu := hu_of hr
    refine ⟨_, (pss_cons (ps_if (pt_cmpR op_eq (pe_cl d_digit (hr.mono (by omega)) (pa_cons (pv 0) (pa_cons pe_int pa_nil))) pe_int (nomark _)) (pss_one (ps_ret (pe_il (pe_lstN (pa_cons pe_str (pa_cons pe_str (pa_cons pe_str (pa_cons pe_str (pa_cons pe_str pa_nil)))))) (pe_cl d_digit (hr.mono (by omega)) (pa_cons (pv 0) (pa_cons pe_int pa_nil)))))) pss_nil)
      (pss_cons (ps_set (i := 1) sc_free_mark.nd rfl (by first | exact .inl rfl | exact .inr rfl) pe_str)
      (pss_cons (ps_forR PassesOwn.never rfl (by rfl) tx.range_ (pe_op op_add pe_int (pe_cl d_digit (hr.mono (by omega)) (pa_cons (pv 0) (pa_cons pe_int pa_nil)))) (pg_name (i := 2) sc_free_mark.nd rfl (by first | exact .inl rfl | exact .inr rfl)) (pss_one (ps_set (i := 1) sc_free_mark.nd rfl (by first | exact .inl rfl | exact .inr rfl) (pe_op op_add_str (pv 1) (pe_ix ix_str pe_str (pe_cl d_digit (hr.mono (by omega)) (pa_cons (pv 0) (pa_cons pe_int pa_nil))) (fun _ _ => rfl))))))
      (pss_cons (ps_if (pt_cmpR op_eq (pv 1) pe_str (nomark _)) (pss_one (ps_ret pe_str)) pss_nil)
      (pss_one (ps_ret (pv 1))))))), ?_⟩
    walk_at "go"
    intro c H1 hc k1 l1
    walk_at "go"
    refine it2 (fun _ => ?_) (fun _ => ?_)
    · refine ⟨by decide, fun p H2 n2 k2 h2 => ?_⟩
      have l2 := l1.keep k2
      walk_at "go"
      intro c H3 hc3 k3 l3
      have np : p ≠ l := fun e => by obtain ⟨z, e1⟩ := l1; rw [e] at n2; rw [n2] at e1; cases e1
      have hx : ∃ x, ([V.str "+", V.str "-", V.str "*", V.str "/", V.str "/:"] : List V)[c]? = some (.str x) ∧ PyData.strOk x = true := by
        match c, hc3 with
        | 0, _ => exact ⟨_, rfl, by decide +kernel⟩
        | 1, _ => exact ⟨_, rfl, by decide +kernel⟩
        | 2, _ => exact ⟨_, rfl, by decide +kernel⟩
        | 3, _ => exact ⟨_, rfl, by decide +kernel⟩
        | 4, _ => exact ⟨_, rfl, by decide +kernel⟩
      obtain ⟨x, e1, e2⟩ := hx
      refine ⟨p, _, c, _, rfl, rfl, k3.obj1 h2 np, e1, h _ _ ⟨_, rfl, e2⟩ ?_ l3⟩
      walk_at "kp"
    · walk_at "go"
      intro c H2 hc k2 l2
      have hc : c < 3 := hc
      walk_at "go"
      refine ⟨⟨fun j σ H' => j ≤ 3 ∧ Kp [l] H H' ∧ LeftAt l H' ∧ ∃ x o, PyData.strOk x = true ∧ x.length ≤ j ∧ σ = [some (.ref l), some (.str x), o], ⟨by omega, by walk_at "kp", l2, ("" : Str), _, by decide +kernel, by decide +kernel, rfl⟩, ?_, ?_⟩⟩
      · rintro j σ H3 hj ⟨hj3, k3, l3, x, o, hx, hxl, rfl⟩
        have hj : j < 1 + c := hj
        walk_at "go"
        intro c4 H4 hc4 k4 l4
        have hg : ∃ g, ("+-*/:<=>&^?@#!;$" : Str).cps.toList[c4]? = some g ∧ g < 128 := by
          have : ∀ i : Fin 16, ∃ g, ("+-*/:<=>&^?@#!;$" : Str).cps.toList[i.val]? = some g ∧ g < 128 := by
            have e : ("+-*/:<=>&^?@#!;$" : Str).cps.toList = [43, 45, 42, 47, 58, 60, 61, 62, 38, 94, 63, 64, 35, 33, 59, 36] := by decide +kernel
            rw [e]
            intro i
            refine ⟨_, List.getElem?_eq_getElem (by exact i.isLt), ?_⟩
            revert i; decide +kernel
          exact this ⟨c4, hc4⟩
        obtain ⟨g, g1, g2⟩ := hg
        refine ⟨_, _, g, rfl, rfl, by decide +kernel, atI_nat g1, _, _, rfl, rfl, ?_, by omega, k3.trans k4, l4, _, _, ?_, ?_, rfl⟩
        · show x.length + 1 ≤ sizeLine
          rw [sizeLine_eq]; omega
        · unfold PyData.strOk at hx ⊢
          rw [PySem.Str.cps_append, Array.all_append, hx]
          simp; omega
        · show (x ++ ⟨#[g]⟩ : Str).cps.size ≤ j + 1
          rw [PySem.Str.cps_append, Array.size_append]
          exact Nat.add_le_add hxl (Nat.le_refl 1)
      · rintro σ H3 ⟨hj3, k3, l3, x, o, hx, hxl, rfl⟩
        walk_at "go"
        refine it2 (fun _ => ?_) (fun _ => ?_)
        · exact h _ _ ⟨_, rfl, by decide +kernel⟩ k3 l3
        · exact ⟨_, rfl, h _ _ ⟨_, rfl, hx⟩ k3 l3⟩
abbrev s_free_sign : Stmt := (topS 21)
abbrev N_free_sign : List Str := ["_law_left", "_law_many", "_law_words", "_law_way"]
theorem sc_free_sign : FnScope N_free_sign ["_law_left", "_law_many", "_law_words"] (defScope s_free_sign) := ⟨rfl, rfl, rfl, by decide +kernel, rfl, by decide +kernel, by decide +kernel⟩

def spFreeSign : Sp := fun vs H Q _ => ∃ (l : Addr) (m : Nat) (a : Addr) (ws : List Str), vs = [.ref l, .int m, .ref a] ∧ LeftAt l H ∧ H a = some (.lst (ws.map .str)) ∧ ws.length = 4 ∧ (∀ x ∈ ws, Word x) ∧ ∀ x H', PyData.strOk x = true → Kp [l] H H' → LeftAt l H' → Q (.str x) H'
theorem ok_free_sign (tx : Txt K w mg C d es n) (d_digit : Def P w K mg base "_law_digit" k ["_law_left", "_law_many"] spDigit) (d_free_mark : Def P w K mg base "_law_free_mark" k ["_law_left"] (spLeftV fun v => ∃ x, v = .str x ∧ PyData.strOk x = true)) (D : DefAt K mg "_law_free_sign" s_free_sign ["_law_left", "_law_many", "_law_words"]) : Def P w K mg base "_law_free_sign" (k + 1) ["_law_left", "_law_many", "_law_words"] spFreeSign := by
  refine D.ok sc_free_sign (fun vs H Q E h => ?_) (fun f cdv A outer s H vs Q E hr h => ?_)
  · obtain ⟨l, m, a, ws, rfl, _⟩ := h; rfl
  · obtain ⟨l, m, a, ws, rfl, hl, ha, h4, hw, h⟩ := h
    have hu := hu_of hr
    have nl : a ≠ l := fun e => by
      obtain ⟨z, e1⟩ := hl
      rw [e, e1] at ha; injection ha with ha; injection ha with ha
      have := congrArg List.length ha; simp at this; omega
    refine ⟨_, (pss_cons (ps_set (i := 3) sc_free_sign.nd rfl (by first | exact .inl rfl | exact .inr rfl) (pe_cl d_digit (hr.mono (by omega)) (pa_cons (pv 0) (pa_cons pe_int pa_nil))))
      (pss_cons (ps_if (PW.pt (pw_and (pt_cmpR op_eq (pv 1) pe_int (nomark _)) (pw_and1 (pt_cmpR op_lt (pv 3) pe_int (nomark _))))) (pss_one (ps_ret (pe_il (pe_lstN (pa_cons (pe_cl d_free_mark (hr.mono (by omega)) (pa_cons (pv 0) pa_nil)) (pa_cons pe_str pa_nil))) (pv 3)))) pss_nil)
      (pss_cons (ps_if (PW.pt (pw_and (pt_cmpR op_eq (pv 1) pe_int (nomark _)) (pw_and1 (pt_cmpR op_eq (pv 3) pe_int (nomark _))))) (pss_one (ps_ret pe_str)) pss_nil)
      (pss_one (ps_ret (pe_il (pe_cat (pv 2) (pe_lstN (pa_cons pe_str (pa_cons pe_str pa_nil)))) (pe_cl d_digit (hr.mono (by omega)) (pa_cons (pv 0) (pa_cons pe_int pa_nil))))))))), ?_⟩
    walk_at "go"
    intro c H1 hc k1 l1
    walk_at "go"
    have wok : ∀ c5 : Nat, c5 < 6 → ∃ x, ((ws.map V.str) ++ [.str "not", .str "keep"])[c5]? = some (.str x) ∧ PyData.strOk x = true := fun c5 hc5 => by
      by_cases q : c5 < 4
      · have hq : c5 < ws.length := by omega
        refine ⟨ws[c5], ?_, (hw _ (List.getElem_mem hq)).1⟩
        rw [List.getElem?_append_left (by simp; omega)]
        simp [hq]
      · rw [List.getElem?_append_right (by simp; omega)]
        simp only [List.length_map, h4]
        match c5, hc5, q with
        | 4, _, _ => exact ⟨_, rfl, by decide +kernel⟩
        | 5, _, _ => exact ⟨_, rfl, by decide +kernel⟩
    refine it2 (fun _ => ?x) (fun _ => ?n2)
    case' x => (walk_at "go"; refine it2 (fun hc2 => ?y) (fun _ => ?n1))
    case y =>
      walk_at "go"
      rintro y H2 ⟨x, rfl, hx⟩ k2 l2
      walk_at "go"
      intro p H3 n3 k3 h3
      refine ⟨_, rfl, p, _, c, V.str (if c = 0 then x else "[|]"), rfl, rfl, h3, ?_, ?_⟩
      · have hc2 : (c : Int) < 2 := by simpa using hc2
        have hc2 : c < 2 := by omega
        match c, hc2 with
        | 0, _ => rfl
        | 1, _ => rfl
      · refine h _ _ ?_ (by walk_at "kp") (l2.keep k3)
        split
        · exact hx
        · decide +kernel
    all_goals (walk_at "go"; refine it2 (fun hq => ?_) (fun hq => ?_))
    all_goals (walk_at "go"; try refine it2 (fun hq => h "[]" _ (by decide +kernel) k1 l1) (fun hq => ?_))
    all_goals
      walk_at "go"
      intro p H2 n2 k2 h2
      walk_at "go"
      refine ⟨by simp [h4], fun p3 H3 n3 k3 h3 => ?_⟩
      have l3 := (l1.keep k2).keep k3
      walk_at "go"
      intro c5 H4 hc5 k4 l4
      obtain ⟨x, e1, e2⟩ := wok c5 hc5
      have np : p3 ≠ l := fun e => by obtain ⟨z, e1⟩ := l1.keep k2; rw [e] at n3; rw [n3] at e1; cases e1
      exact ⟨p3, _, c5, _, rfl, rfl, k4.obj1 h3 np, e1, h _ _ e2 (by walk_at "kp") l4⟩
end
end GT
/-! GtJ: defs of the law: what is drawn, part 3: names, terms, goals, rules. -/
namespace GT
open PySem L2 GL PyProof.Rows RT
/-! tactics: a fact of the heap by what was kept; the reading's small steps -/
local macro_rules | `(tactic| walk_at "hp") => `(tactic| first | assumption | (refine Kp.tup (by assumption) ?_; walk_at "hp") | (refine Kp.obj0 (by assumption) ?_; walk_at "hp") | (refine Kp.obj1 (by assumption) ?_ (by first | assumption | (apply Ne.symm; assumption)); walk_at "hp"))
local macro_rules | `(tactic| walk_at "go") => `(tactic| repeat (first | (refine And.intro ?_ ?_; (first | rfl | walk_at "hp" | decide | (refine Or.inl ?_; walk_at "hp") | (refine Or.inr ?_; walk_at "hp") | (refine SqL.of ?_; walk_at "hp") | exact Nat.le_of_ble_eq_true rfl | exact kvS _ | exact kvI _ | exact cmulL rfl | exact cmulR rfl | exact cpw rfl | exact cdv rfl | omega | (dsimp only; first | decide | omega))) | apply Exists.intro))
local macro_rules | `(tactic| walk_at "kp") => `(tactic| first | assumption | exact Kp.refl _ _ | (refine Kp.trans ?_ (Kp.wk (by assumption) (by simp)); walk_at "kp"))
local macro_rules | `(tactic| walk_at "nn") => `(tactic| first | assumption | (refine Kp.fr (by assumption) _ ?_; walk_at "nn"))

theorem TA.kp {f : Str → V} {S : List Addr} {H H' : Hp} {v : V} {t : GT.T} (h : TA f H v t) (k : Kp S H H') : TA f H' v t := TA.mono k t v h
theorem TAs.kp {f : Str → V} {S : List Addr} {H H' : Hp} {v : List V} {t : List GT.T} (h : TAs f H v t) (k : Kp S H H') : TAs f H' v t := TAs.mono k t v h
/-- names that may be drawn -/
def NamesAt (H : Hp) (a : Addr) (ws us : List Str) (ns : List Nat) : Prop := ∃ aw au ak, H a = some (.lst [.ref aw, .ref au, .ref ak]) ∧ H aw = some (.lst (ws.map .str)) ∧ H au = some (.lst (us.map .str)) ∧ H ak = some (.lst (ns.map fun (i : Nat) => .int i))
structure NamesOk (ws us : List Str) (ns : List Nat) : Prop where
  w4 : ws.length = 4
  u4 : us.length = 4
  w : ∀ x ∈ ws, Word x
  u : ∀ x ∈ us, Word x
  n4 : ns = [] ∨ (ns.length = 4 ∧ ∀ i ∈ ns, i < 5)
theorem ne_len {H : Hp} {a l : Addr} {xs : List V} (h : H a = some (.lst xs)) (hl : LeftAt l H) (n : xs.length ≠ 1) : a ≠ l := fun e => by
  obtain ⟨z, e1⟩ := hl
  rw [e, e1] at h; injection h with h; injection h with h
  exact n (by rw [← h]; rfl)
theorem NamesAt.keep {H H' : Hp} {a l : Addr} {ws us : List Str} {ns : List Nat} (h : NamesAt H a ws us ns) (o : NamesOk ws us ns) (hl : LeftAt l H) (k : Kp [l] H H') : NamesAt H' a ws us ns := by
  obtain ⟨aw, au, ak, h1, h2, h3, h4⟩ := h
  refine ⟨aw, au, ak, k.obj1 h1 (ne_len h1 hl (by simp)), k.obj1 h2 (ne_len h2 hl (by simp [o.w4])), k.obj1 h3 (ne_len h3 hl (by simp [o.u4])), k.obj1 h4 (ne_len h4 hl ?_)⟩
  rcases o.n4 with e | ⟨e, _⟩
  · simp [e]
  · simp [e]
theorem Kp.d2 {l p : Addr} {H H' : Hp} (k : Kp [l, p] H H') (n : H p = none) : Kp [l] H H' := k.sub fun c hc => by
  rcases List.mem_cons.mp hc with hc | hc
  · exact .inl (by rw [hc]; exact List.mem_cons_self)
  · rw [List.mem_singleton] at hc; rw [hc]; exact .inr n
theorem NamesAt.keep0 {H H' : Hp} {a : Addr} {ws us : List Str} {ns : List Nat} (h : NamesAt H a ws us ns) (k : Kp [] H H') : NamesAt H' a ws us ns := by
  obtain ⟨aw, au, ak, h1, h2, h3, h4⟩ := h
  exact ⟨aw, au, ak, k.obj0 h1, k.obj0 h2, k.obj0 h3, k.obj0 h4⟩
section
variable {P : Program} {w : World} {K : PySem.W.Frag} {mg : Str → Option Value} {base : Heap} {C d : Addr} {es : Array DictEntry} {n : Nat} {k : Nat}
/-- words gathered -/
theorem lc_words {l : Addr} {H1 : Hp} {trn : Nat → Hp → VK → Prop} {Qd : V → Hp → Prop} (hl : LeftAt l H1)
    (turn : ∀ m H (Q : VK), LeftAt l H → (∀ x H', Word x → Kp [l] H H' → LeftAt l H' → Q (.str x) H') → trn m H Q)
    (fin : ∀ (ws : List Str) H p, ws.length = 4 → (∀ x ∈ ws, Word x) → H1 p = none → Kp [l] H1 H → LeftAt l H → H p = some (.lst (ws.map V.str)) → Qd (.ref p) H) :
    ∃ Jv, LcOk [l] H1 4 Jv trn Qd := by
  refine ⟨_, LcOk.mk' (fun m ys H => LeftAt l H ∧ ∃ ws : List Str, ws.length = m ∧ ys = ws.map V.str ∧ ∀ x ∈ ws, Word x) (by decide) (fun a m => ?_) ⟨hl, [], rfl, rfl, by simp⟩ (fun m ys H H' D hD kk ⟨l1, r⟩ k => ⟨l1.keep1 k ?_, r⟩) (fun m ys H ⟨_, ws, e, e2, _⟩ => by rw [e2, List.length_map, e]) (fun m ys H hm kk ⟨l1, ws, e1, e2, hw⟩ => ?_) (fun ys H p hp kk ⟨l1, ws, e1, e2, hw⟩ e => ?_)⟩
  · rw [List.mem_singleton] at m; subst m
    obtain ⟨z, e⟩ := hl; rw [e]; intro q; cases q
  · rintro rfl
    obtain ⟨z, e⟩ := hl; rw [e] at hD; cases hD
  · refine turn m H _ l1 fun x H' hx k l2 => ⟨k, kk.trans k, l2, ws ++ [x], by simp [e1], by simp [e2], fun y hy => ?_⟩
    rcases List.mem_append.mp hy with hy | hy
    · exact hw y hy
    · rw [List.mem_singleton] at hy; rw [hy]; exact hx
  · subst e2
    exact fin ws H p e1 hw hp kk l1 e
abbrev s_free_words : Stmt := (topS 18)
abbrev N_free_words : List Str := ["_law_script", "_law_kinds", "_law_left", "_law_words", "_law_k"]
theorem sc_free_words : FnScope N_free_words ["_law_script", "_law_kinds"] (defScope s_free_words) := ⟨rfl, rfl, rfl, by decide +kernel, rfl, by decide +kernel, by decide +kernel⟩

def spFreeWords (K : PySem.W.Frag) : Sp := fun vs H Q _ => ∃ (a b : Addr) (is : List Int) (ns : List Nat), vs = [.ref a, .ref b] ∧ SqL K H a (is.map .int) ∧ H b = some (.lst (ns.map fun (i : Nat) => .int i)) ∧
  ∀ (p : Addr) ws us H', ws.length = 4 → us.length = 4 → (∀ x ∈ ws, Word x) → (∀ x ∈ us, Word x) → Kp [] H H' → NamesAt H' p ws us ns → Q (.ref p) H'
theorem ok_free_words (tx : Txt K w mg C d es n) (d_drawn : Def P w K mg base "_law_drawn" k ["_law_script", "_law_k"] (spBig K)) (d_free_word : Def P w K mg base "_law_free_word" k ["_law_left", "_law_first"] spFreeWord) (D : DefAt K mg "_law_free_words" s_free_words ["_law_script", "_law_kinds"]) : Def P w K mg base "_law_free_words" (k + 1) ["_law_script", "_law_kinds"] (spFreeWords K) := by
  refine D.ok sc_free_words (fun vs H Q E h => ?_) (fun f cdv A outer s H vs Q E hr h => ?_)
  · obtain ⟨a, b, is, ns, rfl, _⟩ := h; rfl
  · obtain ⟨a, b, is, ns, rfl, hs, hb, h⟩ := h
    have hu := hu_of hr
    refine ⟨_, (pss_cons (ps_set (i := 2) sc_free_words.nd rfl (by first | exact .inl rfl | exact .inr rfl) (pe_lstN (pa_cons (pe_cl d_drawn (hr.mono (by omega)) (pa_cons (pv 0) (pa_cons pe_int pa_nil))) pa_nil)))
      (pss_cons ((lcR (x1 := "_law_k") (i := 4) rfl sc_free_words.nd (by rfl) tx.range_ pe_int (blkOk_by (own := [("_law_k", 4)]) (N := N_free_words) (sc := defScope s_free_words) (by decide +kernel)) (fun _ _ _ _ _ => pg_name (i := 4) sc_free_words.nd rfl (Or.inl rfl)) (fun _ _ _ _ _ => (pe_cl d_free_word (hr.mono (by omega)) (pa_cons (pv 2) (pa_cons pe_int pa_nil))))).ps (i := 3) sc_free_words.nd rfl rfl (sw_true rfl rfl rfl (by decide +kernel)))
      (pss_cons (ps_set (i := 2) sc_free_words.nd rfl (by first | exact .inl rfl | exact .inr rfl) (pe_lstN (pa_cons (pe_cl d_drawn (hr.mono (by omega)) (pa_cons (pv 0) (pa_cons pe_int pa_nil))) pa_nil)))
      (pss_one (ps_ret (pe_lstN (pa_cons (pv 3) (pa_cons (lcR (x1 := "_law_k") (i := 4) rfl sc_free_words.nd (by rfl) tx.range_ pe_int (blkOk_by (own := [("_law_k", 4)]) (N := N_free_words) (sc := defScope s_free_words) (by decide +kernel)) (fun _ _ _ _ _ => pg_name (i := 4) sc_free_words.nd rfl (Or.inl rfl)) (fun _ _ _ _ _ => (pe_cl d_free_word (hr.mono (by omega)) (pa_cons (pv 2) (pa_cons pe_int pa_nil))))).pe (pa_cons (pv 1) pa_nil))))))))), ?_⟩
    refine ⟨_, rfl, a, is, 1, rfl, hs, fun z H1 k1 => ?_⟩
    walk_at "go"
    intro l H2 n2 k2 h2
    have l2 : LeftAt l H2 := ⟨_, h2⟩
    refine ⟨4, rfl, [l], ?_⟩
    refine lc_words l2 (fun m H Q l3 q => ⟨_, rfl, l, 0, rfl, by decide, l3, q⟩) (fun ws H3 p3 w4 hw n3 k3 l3 e3 => ?_)
    have k13 : Kp [] H1 H3 := ((k2.any [l]).trans k3).one rfl n2
    refine ⟨_, rfl, a, is, 2, rfl, (k1.trans k13).sql hs, fun z4 H4 k4 => ?_⟩
    walk_at "go"
    intro q H5 n5 k5 h5
    have l5 : LeftAt q H5 := ⟨_, h5⟩
    have np3 : p3 ≠ q := fun e => by rw [e] at e3; rw [k4.obj0 e3] at n5; cases n5
    refine ⟨_, rfl, 4, rfl, [q], ?_⟩
    refine lc_words l5 (fun m H Q l3 q' => ⟨_, rfl, q, 26, rfl, by decide, l3, q'⟩) (fun us H6 p6 u4 hu n6 k6 l6 e6 => ?_)
    have k46 : Kp [] H4 H6 := ((k5.any [q]).trans k6).one rfl n5
    walk_at "go"
    intro p7 H7 n7 k7 h7
    have kk : Kp [] H H6 := ((k1.trans k13).trans k4).trans k46
    exact h p7 ws us H7 w4 u4 hw hu (kk.trans k7) ⟨p3, p6, b, h7, k7.obj0 (k46.obj0 (k4.obj0 e3)), k7.obj0 e6, k7.obj0 (kk.obj0 hb)⟩
abbrev s_free_parts : Stmt := (topS 23)
abbrev N_free_parts : List Str := ["_law_term", "_law_kid"]
theorem sc_free_parts : FnScope N_free_parts ["_law_term"] (defScope s_free_parts) := ⟨rfl, rfl, rfl, by decide +kernel, rfl, by decide +kernel, by decide +kernel⟩

def spParts (n : Nat) : Sp := fun vs H Q _ => ∃ (v : V) (t : GT.T), vs = [v] ∧ TA .str H v t ∧ t.size ≤ n ∧ ∀ H', Kp [] H H' → Q (.int (t.size : Nat)) H'
theorem sum_sizes : ∀ ts : List GT.T, (ts.map fun t => ((t.size : Nat) : Int)).sum = (sizes ts : Nat)
  | [] => rfl
  | t :: r => by
    rw [List.map_cons, List.sum_cons, sum_sizes r]
    simp only [sizes]; omega
theorem step_free_parts (tx : Txt K w mg C d es n) {j : Nat} (hj1 : j ≤ 1000) (d_free_parts : Def P w K mg base "_law_free_parts" k ["_law_term"] (spParts j)) (D : DefAt K mg "_law_free_parts" s_free_parts ["_law_term"]) : Def P w K mg base "_law_free_parts" (k + 1) ["_law_term"] (spParts (j + 1)) := by
  refine D.ok sc_free_parts (fun vs H Q E h => ?_) (fun f cdv A outer s H vs Q E hr h => ?_)
  · obtain ⟨v, t, rfl, _⟩ := h; rfl
  · obtain ⟨v, t, rfl, ht, hj, h⟩ := h
    have hu := hu_of hr
    refine ⟨_, (pss_cons (ps_if (pt_cmpR op_eq (pe_tc (n := 0) (pv 0)) pe_str (nomark _)) (pss_one (ps_ret (pe_op op_add pe_int (pe_callB (cr_sum rfl) (by rfl) tx.sum_ boot_sum (pa_cons (lcT (x1 := "_law_kid") (i := 1) rfl sc_free_parts.nd (pe_tc (n := 2) (pv 0)) (blkOk_by (own := [("_law_kid", 1)]) (N := N_free_parts) (sc := defScope s_free_parts) (by decide +kernel)) (fun _ _ _ _ _ => pg_name (i := 1) sc_free_parts.nd rfl (Or.inl rfl)) (fun _ _ _ _ _ => (pe_cl d_free_parts (hr.mono (by omega)) (pa_cons (pv 1) pa_nil)))).pe pa_nil))))) pss_nil)
      (pss_one (ps_ret pe_int))), ?_⟩
    cases t with
    | any x =>
      obtain ⟨a, rfl, ha⟩ := ht
      walk_at "go"
      refine itF (by decide) (h _ (Kp.refl _ _))
    | num x =>
      obtain ⟨a, rfl, ha⟩ := ht
      walk_at "go"
      refine itF (by decide) (h _ (Kp.refl _ _))
    | app x ks =>
      obtain ⟨a, b, vs, rfl, ha, hb, hk⟩ := ht
      walk_at "go"
      have hl := hk.len
      have hsz : sizes ks ≤ j := by simp only [T.size] at hj; omega
      have hlen := sizes_len ks
      refine ⟨LcOk.mk' (S := []) (fun m ys H => ys = (ks.take m).map (fun t => V.int ((t.size : Nat) : Int)) ∧ m ≤ ks.length) ?_ ?_ ?_ ?_ ?_ ?_ ?_, by simp⟩
      · omega
      · simp
      · exact ⟨rfl, Nat.zero_le _⟩
      · exact fun m ys H H' D hD kk r k => r
      · rintro m ys H ⟨rfl, hm⟩; simp; omega
      · rintro m ys H2 hm kk ⟨rfl, hm2⟩ y hy
        obtain ⟨t, h1, h2⟩ := hk.get hy
        refine ⟨_, rfl, y, t, rfl, h2.kp kk, ?_, fun H' k => ⟨k, kk.trans k, ?_, by omega⟩⟩
        · have := sizes_mem (List.mem_of_getElem? h1); omega
        · rw [List.take_add_one, h1]; simp
      · rintro ys H2 p hp kk ⟨rfl, _⟩ e
        rw [hl, List.take_length] at e
        refine ⟨p, (ks.map fun t => ((t.size : Nat) : Int)), rfl, SqL.of (by rw [e, List.map_map]; rfl), ?_⟩
        rw [sum_sizes]
        walk_at "go"
        have e2 : (1 : Int) + ((sizes ks : Nat) : Int) = (((1 + sizes ks : Nat)) : Int) := by omega
        show Q (.int (1 + ((sizes ks : Nat) : Int))) H2
        rw [e2]
        exact h _ kk
/-- a term is drawn: room for i parts -/
def TermOut (l : Addr) (H : Hp) (i : Int) (Q : VK) : Prop := ∀ v t H', TA .str H' v t → t.ok → (t.size : Int) ≤ i → Kp [l] H H' → LeftAt l H' → Q v H'
def spTerm (n : Nat) : Sp := fun vs H Q _ => ∃ (l nm : Addr) (i : Int) (ws us : List Str) (ns : List Nat), vs = [.ref l, .int i, .ref nm] ∧ 1 ≤ i ∧ i ≤ (n : Int) ∧ LeftAt l H ∧ NamesAt H nm ws us ns ∧ NamesOk ws us ns ∧ TermOut l H i Q
def spKids (n : Nat) : Sp := fun vs H Q _ => ∃ (l nm : Addr) (m : Nat) (i : Int) (ws us : List Str) (ns : List Nat), vs = [.ref l, .int m, .int i, .ref nm] ∧ (m : Int) ≤ i ∧ m ≤ 4 ∧ i ≤ (n : Int) ∧ LeftAt l H ∧ NamesAt H nm ws us ns ∧ NamesOk ws us ns ∧
  ∀ p xs ts H', H' p = some (.tup xs) → TAs .str H' xs ts → oks ts → ts.length = m → (sizes ts : Int) ≤ i → Kp [l] H H' → LeftAt l H' → Q (.ref p) H'
abbrev s_free_kids : Stmt := (topS 22)
abbrev N_free_kids : List Str := ["_law_left", "_law_many", "_law_room", "_law_names", "_law_kids", "_law_k", "_law_kid"]
theorem sc_free_kids : FnScope N_free_kids ["_law_left", "_law_many", "_law_room", "_law_names"] (defScope s_free_kids) := ⟨rfl, rfl, rfl, by decide +kernel, rfl, by decide +kernel, by decide +kernel⟩

abbrev s_free_term : Stmt := (topS 24)
abbrev N_free_term : List Str := ["_law_left", "_law_room", "_law_names", "_law_way", "_law_many"]
theorem sc_free_term : FnScope N_free_term ["_law_left", "_law_room", "_law_names"] (defScope s_free_term) := ⟨rfl, rfl, rfl, by decide +kernel, rfl, by decide +kernel, by decide +kernel⟩

theorem step_free_kids (tx : Txt K w mg C d es n) {j j2 : Nat} (hjj : j ≤ j2) (d_free_parts : Def P w K mg base "_law_free_parts" k ["_law_term"] (spParts j2)) (d_free_term : Def P w K mg base "_law_free_term" k ["_law_left", "_law_room", "_law_names"] (spTerm j)) (D : DefAt K mg "_law_free_kids" s_free_kids ["_law_left", "_law_many", "_law_room", "_law_names"]) : Def P w K mg base "_law_free_kids" (k + 1) ["_law_left", "_law_many", "_law_room", "_law_names"] (spKids j) := by
  refine D.ok sc_free_kids (fun vs H Q E h => ?_) (fun f cdv A outer s H vs Q E hr h => ?_)
  · obtain ⟨l, nm, m, i, ws, us, ns, rfl, _⟩ := h; rfl
  · obtain ⟨l, nm, m, i, ws, us, ns, rfl, hm, h4, hi, hl, hn, ho, h⟩ := h
    have hu := hu_of hr
    refine ⟨_, (pss_cons (ps_set (i := 4) sc_free_kids.nd rfl (by first | exact .inl rfl | exact .inr rfl) (pe_lstN pa_nil))
      (pss_cons (ps_forR PassesOwn.never rfl (by rfl) tx.range_ (pv 1) (pg_name (i := 5) sc_free_kids.nd rfl (by first | exact .inl rfl | exact .inr rfl)) (pss_cons (ps_set (i := 6) sc_free_kids.nd rfl (by first | exact .inl rfl | exact .inr rfl) (pe_cl d_free_term (hr.mono (by omega)) (pa_cons (pv 0) (pa_cons (pe_op op_sub (pv 2) (pe_op op_sub (pe_op op_sub (pv 1) pe_int) (pv 5))) (pa_cons (pv 3) pa_nil)))))
      (pss_cons (ps_set (i := 2) sc_free_kids.nd rfl (by first | exact .inl rfl | exact .inr rfl) (pe_op op_sub (pv 2) (pe_cl d_free_parts (hr.mono (by omega)) (pa_cons (pv 6) pa_nil))))
      (pss_one (ps_expr (pe_app (pv 4) (pv 6)))))))
      (pss_one (ps_ret (pe_tuple (by rfl) tx.tuple_ (pv 4)))))), ?_⟩
    walk_at "go"
    intro p H1 n1 k1 h1
    have npl : p ≠ l := fun e => by obtain ⟨z, e1⟩ := hl; rw [e] at n1; rw [n1] at e1; cases e1
    walk_at "go"
    refine ⟨⟨fun q σ H' => q ≤ m ∧ ∃ (xs : List V) (ts : List GT.T) (room : Int) (o1 o2 : Option V), H' p = some (.lst xs) ∧ TAs .str H' xs ts ∧ oks ts ∧ ts.length = q ∧ room + (sizes ts : Int) = i ∧ (m : Int) - q ≤ room ∧ Kp [l, p] H1 H' ∧ LeftAt l H' ∧
      σ = [some (.ref l), some (.int m), some (.int room), some (.ref nm), some (.ref p), o1, o2],
      ⟨Nat.zero_le _, [], [], i, none, none, h1, trivial, trivial, rfl, by simp [sizes], by omega, Kp.refl _ _, hl.keep k1, rfl⟩, ?_, ?_⟩⟩
    · rintro q σ H2 hq ⟨hq2, xs, ts, room, o1, o2, e1, e2, e3, e4, e5, e6, k2, l2, rfl⟩
      have hq : q < m := hq
      have n2 := hn.keep ho hl ((by walk_at "kp" : Kp [l, p] H H2).d2 n1)
      refine ⟨_, rfl, _, rfl, _, rfl, _, _, rfl, rfl, _, rfl, _, _, rfl, rfl, _, _, rfl, rfl, _, rfl, l, nm, _, ws, us, ns, rfl, ?_, ?_, l2, n2, ho, fun v t H3 a1 a2 a3 k3 l3 => ?_⟩
      · show 1 ≤ room - ((m : Int) - 1 - (q : Int)); omega
      · show room - ((m : Int) - 1 - (q : Int)) ≤ _; omega
      · have a3 : (t.size : Int) ≤ room - ((m : Int) - 1 - (q : Int)) := a3
        refine ⟨_, rfl, _, rfl, v, t, rfl, a1, by omega, fun H4 k4 => ?_⟩
        have e1' := k4.obj0 (k3.obj1 e1 npl)
        refine ⟨_, _, rfl, rfl, _, rfl, p, xs, rfl, e1', _, rfl, xs, e1', ?_, fun H5 k5 h5 => ?_⟩
        · rw [e2.len, e4]; omega
        · have k35 : Kp [l, p] H2 H5 := by walk_at "kp"
          refine ⟨by omega, xs ++ [v], ts ++ [t], _, _, _, h5, ?_, ?_, ?_, ?_, ?_, k2.trans k35, (l3.keep k4).keep1 k5 (Ne.symm npl), rfl⟩
          · exact (e2.kp k35).snoc ((a1.kp k4).kp k5)
          · exact (oks_append _ _).mpr ⟨e3, a2, trivial⟩
          · simp [e4]
          · rw [sizes_append]; simp only [sizes]; omega
          · have hts := t.size_pos; omega
    · rintro σ H2 ⟨hq2, xs, ts, room, o1, o2, e1, e2, e3, e4, e5, e6, k2, l2, rfl⟩
      refine ⟨_, rfl, p, xs, rfl, e1, fun p3 H3 n3 k3 h3 => ?_⟩
      have kk : Kp [l, p] H H3 := by walk_at "kp"
      exact h p3 xs ts H3 h3 (e2.kp k3) e3 (by omega) (by have := e5; omega) (kk.d2 n1) (l2.keep k3)
theorem step_free_term (tx : Txt K w mg C d es n) {j : Nat} (d_digit : Def P w K mg base "_law_digit" k ["_law_left", "_law_many"] spDigit) (d_free_number : Def P w K mg base "_law_free_number" k ["_law_left"] (spLeftV fun v => ∃ i, v = .int i)) (d_free_sign : Def P w K mg base "_law_free_sign" k ["_law_left", "_law_many", "_law_words"] spFreeSign) (d_free_kids : Def P w K mg base "_law_free_kids" k ["_law_left", "_law_many", "_law_room", "_law_names"] (spKids j)) (D : DefAt K mg "_law_free_term" s_free_term ["_law_left", "_law_room", "_law_names"]) : Def P w K mg base "_law_free_term" (k + 1) ["_law_left", "_law_room", "_law_names"] (spTerm (j + 1)) := by
  refine D.ok sc_free_term (fun vs H Q E h => ?_) (fun f cdv A outer s H vs Q E hr h => ?_)
  · obtain ⟨l, nm, i, ws, us, ns, rfl, _⟩ := h; rfl
  · obtain ⟨l, nm, i, ws, us, ns, rfl, h1, hi, hl, hn, ho, h⟩ := h
    have hu := hu_of hr
    refine ⟨_, (pss_cons (ps_set (i := 3) sc_free_term.nd rfl (by first | exact .inl rfl | exact .inr rfl) (pe_cl d_digit (hr.mono (by omega)) (pa_cons (pv 0) (pa_cons pe_int pa_nil))))
      (pss_cons (ps_if (pt_cmpR op_lt (pv 3) pe_int (nomark _)) (pss_one (ps_ret (pe_tupN (pa_cons pe_str (pa_cons (pe_il (pe_lc_ (n := 1) (pv 2)) (pe_cl d_digit (hr.mono (by omega)) (pa_cons (pv 0) (pa_cons pe_int pa_nil)))) pa_nil))))) pss_nil)
      (pss_cons (ps_if (pt_cmpR op_eq (pv 3) pe_int (nomark _)) (pss_one (ps_ret (pe_tupN (pa_cons pe_str (pa_cons (pe_cl d_free_number (hr.mono (by omega)) (pa_cons (pv 0) pa_nil)) pa_nil))))) pss_nil)
      (pss_cons (ps_set (i := 4) sc_free_term.nd rfl (by first | exact .inl rfl | exact .inr rfl) (pe_cl d_digit (hr.mono (by omega)) (pa_cons (pv 0) (pa_cons pe_int pa_nil))))
      (pss_cons (ps_if (pt_cmpR op_ge (pv 4) (pv 1) (nomark _)) (pss_one (ps_set (i := 4) sc_free_term.nd rfl (by first | exact .inl rfl | exact .inr rfl) pe_int)) pss_nil)
      (pss_one (ps_ret (pe_tupN (pa_cons pe_str (pa_cons (pe_cl d_free_sign (hr.mono (by omega)) (pa_cons (pv 0) (pa_cons (pv 4) (pa_cons (pe_lc_ (n := 0) (pv 2)) pa_nil)))) (pa_cons (pe_cl d_free_kids (hr.mono (by omega)) (pa_cons (pv 0) (pa_cons (pv 4) (pa_cons (pe_op op_sub (pv 1) pe_int) (pa_cons (pv 2) pa_nil))))) pa_nil))))))))))), ?_⟩
    walk_at "go"
    intro c H1 hc k1 l1
    have hc : c < 5 := hc
    have n1 := hn.keep ho hl k1
    walk_at "go"
    refine it2 (fun _ => ?_) (fun _ => ?_)
    · obtain ⟨aw, au, ak, f1, f2, f3, f4⟩ := id n1
      refine ⟨_, rfl, _, _, _, rfl, f1, rfl, _, rfl, l, 4, rfl, by decide, by decide, l1, fun c2 H2 hc2 k2 l2 => ?_⟩
      have hq : c2 < us.length := by rw [ho.u4]; exact hc2
      refine ⟨au, _, c2, .str us[c2], rfl, rfl, k2.obj1 f3 (ne_len f3 l1 (by simp [ho.u4])), by simp [hq], ?_⟩
      walk_at "go"
      intro p H3 n3 k3 h3
      refine h (.ref p) (.any us[c2]) H3 ⟨p, rfl, h3⟩ (ho.u _ (List.getElem_mem hq)).1 (by simp only [T.size]; omega) (by walk_at "kp") (l2.keep k3)
    · walk_at "go"
      refine it2 (fun _ => ?_) (fun _ => ?_)
      · walk_at "go"
        rintro y H2 ⟨z, rfl⟩ k2 l2
        walk_at "go"
        intro p H3 n3 k3 h3
        exact h (.ref p) (.num z) H3 ⟨p, rfl, h3⟩ trivial (by simp only [T.size]; omega) (by walk_at "kp") (l2.keep k3)
      · walk_at "go"
        intro c2 H2 hc2 k2 l2
        have hc2 : c2 < 5 := hc2
        have n2 := n1.keep ho l1 k2
        walk_at "go"
        have tail : ∀ (m : Nat) (σ : L2.St), (m : Int) + 1 ≤ i → m ≤ 4 → σ = [some (.ref l), some (.int i), some (.ref nm), some (.int c), some (.int m)] →
            tRet (uTup (tCons (tC (V.str "app")) (tCons (uCall spFreeSign (tCons (tVar 0) (tCons (tVar 4) (tCons (uL (tVar 2) 0) tNil)))) (tCons (uCall (spKids j) (tCons (tVar 0) (tCons (tVar 4) (tCons (tOp (rI0 fun i j => V.int (i - j)) (tVar 1) (tC (V.int 1))) (tCons (tVar 2) tNil))))) tNil)))) { nx := fun _ H' => Q .non H', rt := Q } σ H2 := by
          rintro m σ hm h4 rfl
          obtain ⟨aw, au, ak, f1, f2, f3, f4⟩ := id n2
          refine ⟨_, rfl, _, rfl, _, rfl, _, _, _, rfl, f1, rfl, l, m, aw, ws, rfl, l2, f2, ho.w4, ho.w, fun x H3 hx k3 l3 => ?_⟩
          have n3 := n2.keep ho l2 k3
          refine ⟨_, rfl, _, rfl, _, rfl, _, _, rfl, rfl, _, rfl, l, nm, m, _, ws, us, ns, rfl, ?_, h4, ?_, l3, n3, ho, fun p xs ts H4 a1 a2 a3 a4 a5 k4 l4 => ?_⟩
          · show (m : Int) ≤ i - 1; omega
          · show i - 1 ≤ _; omega
          · have a5 : (sizes ts : Int) ≤ i - 1 := a5
            walk_at "go"
            intro q H5 n5 k5 h5
            exact h (.ref q) (.app x ts) H5 ⟨q, p, xs, rfl, h5, k5.tup a1, a2.kp k5⟩ ⟨hx, by omega, a3⟩ (by simp only [T.size]; omega) (by walk_at "kp") (l4.keep k5)
        refine it2 (fun hq => ?_) (fun hq => ?_)
        · exact tail 0 _ (by omega) (by omega) rfl
        · have hq : ¬ i ≤ (c2 : Int) := by simpa using hq
          exact tail c2 _ (by omega) (by omega) rfl
abbrev s_free_named : Stmt := (topS 25)
abbrev N_free_named : List Str := ["_law_left", "_law_room", "_law_names", "_law_at", "_law_many"]
theorem sc_free_named : FnScope N_free_named ["_law_left", "_law_room", "_law_names"] (defScope s_free_named) := ⟨rfl, rfl, rfl, by decide +kernel, rfl, by decide +kernel, by decide +kernel⟩

def spNamed (n : Nat) : Sp := fun vs H Q _ => ∃ (l nm : Addr) (i : Int) (ws us : List Str) (ns : List Nat), vs = [.ref l, .int i, .ref nm] ∧ 1 ≤ i ∧ i ≤ (n : Int) ∧ LeftAt l H ∧ NamesAt H nm ws us ns ∧ NamesOk ws us ns ∧ 
  ∀ v s ts H', TA .str H' v (.app s ts) → Word s → GT.T.ok (.app s ts) → ((GT.T.app s ts).size : Int) ≤ i → Kp [l] H H' → LeftAt l H' → Q v H'
theorem shaped_list {xs : List PyData} (h : PyData.canLayAll0 xs = true) (hd : PyData.depthAll xs ≤ 60) : SeqAt.shaped (.list xs) = true := by
  show (PyData.canLay0 (.list xs) && decide ((PyData.list xs).depth ≤ 64)) = true
  have e1 : PyData.canLay0 (.list xs) = true := h
  have e2 : (PyData.list xs).depth ≤ 64 := by simp only [PyData.depth]; omega
  rw [e1, decide_eq_true e2]; rfl
theorem ints_lay : ∀ ns : List Nat, PyData.canLayAll0 (ns.map fun (i : Nat) => PyData.int i) = true ∧ PyData.depthAll (ns.map fun (i : Nat) => PyData.int i) = 0
  | [] => ⟨rfl, rfl⟩
  | a :: r => by
    obtain ⟨h1, h2⟩ := ints_lay r
    refine ⟨?_, ?_⟩
    · show (PyData.canLay0 (.int a) && PyData.canLayAll0 _) = true
      rw [h1]; rfl
    · simp only [List.map_cons, PyData.depthAll, PyData.depth, h2]; rfl
theorem ints_dp {K : PySem.W.Frag} {H : Hp} : ∀ ns : List Nat, DpAll K H (ns.map fun (i : Nat) => V.int i) (ns.map fun (i : Nat) => PyData.int i)
  | [] => .nil
  | a :: r => .cons (.int _) (ints_dp r)
theorem ok_free_named (tx : Txt K w mg C d es n) {j : Nat} (d_digit : Def P w K mg base "_law_digit" k ["_law_left", "_law_many"] spDigit) (d_free_kids : Def P w K mg base "_law_free_kids" k ["_law_left", "_law_many", "_law_room", "_law_names"] (spKids j)) (D : DefAt K mg "_law_free_named" s_free_named ["_law_left", "_law_room", "_law_names"]) : Def P w K mg base "_law_free_named" (k + 1) ["_law_left", "_law_room", "_law_names"] (spNamed (j + 1)) := by
  refine D.ok sc_free_named (fun vs H Q E h => ?_) (fun f cdv A outer s H vs Q E hr h => ?_)
  · obtain ⟨l, nm, i, ws, us, ns, rfl, _⟩ := h; rfl
  · obtain ⟨l, nm, i, ws, us, ns, rfl, h1, hi, hl, hn, ho, h⟩ := h
    have hu := hu_of hr
    refine ⟨_, (pss_cons (ps_set (i := 3) sc_free_named.nd rfl (by first | exact .inl rfl | exact .inr rfl) (pe_cl d_digit (hr.mono (by omega)) (pa_cons (pv 0) (pa_cons pe_int pa_nil))))
      (pss_cons (ps_set (i := 4) sc_free_named.nd rfl (by first | exact .inl rfl | exact .inr rfl) (pe_cl d_digit (hr.mono (by omega)) (pa_cons (pv 0) (pa_cons pe_int pa_nil))))
      (pss_cons (ps_if (pt_cmpR (op_neD hr.units) (pe_lc_ (n := 2) (pv 2)) (pe_lstN pa_nil) (nomark _)) (pss_one (ps_set (i := 4) sc_free_named.nd rfl (by first | exact .inl rfl | exact .inr rfl) (pe_il (pe_lc_ (n := 2) (pv 2)) (pv 3)))) pss_nil)
      (pss_cons (ps_set (i := 4) sc_free_named.nd rfl (by first | exact .inl rfl | exact .inr rfl) (pe_callB (call_min2 rfl) (by rfl) tx.min_ boot_min (pa_cons (pv 4) (pa_cons (pe_op op_sub (pv 1) pe_int) pa_nil))))
      (pss_one (ps_ret (pe_tupN (pa_cons pe_str (pa_cons (pe_il (pe_lc_ (n := 0) (pv 2)) (pv 3)) (pa_cons (pe_cl d_free_kids (hr.mono (by omega)) (pa_cons (pv 0) (pa_cons (pv 4) (pa_cons (pe_op op_sub (pv 1) pe_int) (pa_cons (pv 2) pa_nil))))) pa_nil)))))))))), ?_⟩
    walk_at "go"
    intro c H1 hc k1 l1
    have hc : c < 4 := hc
    have n1 := hn.keep ho hl k1
    walk_at "go"
    intro c2 H2 hc2 k2 l2
    have hc2 : c2 < 5 := hc2
    have n2 := n1.keep ho l1 k2
    obtain ⟨aw, au, ak, f1, f2, f3, f4⟩ := id n2
    walk_at "go"
    intro p H3 n3 k3 h3
    refine ⟨_, _, .lst (.inl (.inl (k3.obj0 f4))) (ints_dp ns), .lst (SqL.of h3) .nil, shaped_list (ints_lay ns).1 (by rw [(ints_lay ns).2]; decide), by decide +kernel, _, rfl, ?_⟩
    have l3 := l2.keep k3
    have g3 := n2.keep0 k3
    have hwq : c < ws.length := by rw [ho.w4]; exact hc
    refine it2 (fun hq => ?_) (fun hq => ?_)
    · rcases ho.n4 with e | ⟨e, hb⟩
      · rw [e] at hq
        have e0 : PyData.eqv (.list (([] : List Nat).map fun (i : Nat) => PyData.int i)) (.list []) = true := by decide +kernel
        rw [e0] at hq; cases hq
      · have hcl : c < ns.length := by omega
        have h4 : ns[c] ≤ 4 := by have := hb _ (List.getElem_mem hcl); omega
        have em : (ns.map fun (i : Nat) => V.int i)[c]? = some (.int (ns[c] : Nat)) := by simp [hcl]
        obtain ⟨m, e1⟩ : ∃ m, m = ns[c] := ⟨_, rfl⟩
        rw [← e1] at h4 em
        refine ⟨_, rfl, _, _, _, rfl, k3.obj0 f1, rfl, _, rfl, ak, _, c, _, rfl, rfl, k3.obj0 f4, em, ?_⟩
        walk_at "go"
        have em2 : (if (i - 1 : Int) < (m : Int) then (i - 1 : Int) else (m : Int)) = ((min m (i - 1).toNat : Nat) : Int) := by split <;> omega
        rw [em2]
        refine ⟨(by simp [hwq] : (ws.map V.str)[c]? = some (V.str ws[c])), _, rfl, _, rfl, _, rfl, _, _, rfl, rfl, _, rfl, l, nm, min m (i - 1).toNat, _, ws, us, ns, rfl, ?_, ?_, ?_, l3, g3, ho, fun p xs ts H4 a1 a2 a3 a4 a5 k4 l4 => ?_⟩
        · show ((min m (i - 1).toNat : Nat) : Int) ≤ i - 1
          omega
        · omega
        · show i - 1 ≤ _
          omega
        · have a5 : (sizes ts : Int) ≤ i - 1 := a5
          walk_at "go"
          intro q H5 n5 k5 h5
          exact h (.ref q) ws[c] ts H5 ⟨q, p, xs, rfl, h5, k5.tup a1, a2.kp k5⟩ (ho.w _ (List.getElem_mem hwq)) ⟨(ho.w _ (List.getElem_mem hwq)).1, by omega, a3⟩ (by simp only [T.size]; omega) (by walk_at "kp") (l4.keep k5)
    · obtain ⟨m, e1⟩ : ∃ m, m = c2 := ⟨_, rfl⟩
      have h4 : m ≤ 4 := by omega
      rw [← e1]
      walk_at "go"
      have em2 : (if (i - 1 : Int) < (m : Int) then (i - 1 : Int) else (m : Int)) = ((min m (i - 1).toNat : Nat) : Int) := by split <;> omega
      rw [em2]
      refine ⟨(by simp [hwq] : (ws.map V.str)[c]? = some (V.str ws[c])), _, rfl, _, rfl, _, rfl, _, _, rfl, rfl, _, rfl, l, nm, min m (i - 1).toNat, _, ws, us, ns, rfl, ?_, ?_, ?_, l3, g3, ho, fun p xs ts H4 a1 a2 a3 a4 a5 k4 l4 => ?_⟩
      · show ((min m (i - 1).toNat : Nat) : Int) ≤ i - 1
        omega
      · omega
      · show i - 1 ≤ _
        omega
      · have a5 : (sizes ts : Int) ≤ i - 1 := a5
        walk_at "go"
        intro q H5 n5 k5 h5
        exact h (.ref q) ws[c] ts H5 ⟨q, p, xs, rfl, h5, k5.tup a1, a2.kp k5⟩ (ho.w _ (List.getElem_mem hwq)) ⟨(ho.w _ (List.getElem_mem hwq)).1, by omega, a3⟩ (by simp only [T.size]; omega) (by walk_at "kp") (l4.keep k5)
/-- a goal -/
inductive GK : GT.T → Prop where
  | named {s : Str} {ks : List GT.T} (h : Word s) : GK (.app s ks)
  | nt {s : Str} {ks : List GT.T} (h : Word s) : GK (.app "not" [.app s ks])
  | deed (q : Deed) {ks : List GT.T} (h : ks.length = q.many) : GK (.app q.sign ks)
def DeedsAt (H : Hp) (a : Addr) : Prop := H a = some (.lst [.str "=", .str ":=", .str "<", .str "<="])
def spGoal (n : Nat) : Sp := fun vs H Q _ => ∃ (l nm da : Addr) (i : Int) (ws us : List Str) (ns : List Nat), vs = [.ref l, .int i, .ref nm, .ref da] ∧ 3 ≤ i ∧ i ≤ (n : Int) ∧ LeftAt l H ∧ NamesAt H nm ws us ns ∧ NamesOk ws us ns ∧ DeedsAt H da ∧
  ∀ v t H', TA .str H' v t → GK t → t.ok → (t.size : Int) ≤ i → Kp [l] H H' → LeftAt l H' → Q v H'
abbrev s_free_goal : Stmt := (topS 26)
abbrev N_free_goal : List Str := ["_law_left", "_law_room", "_law_names", "_law_deeds", "_law_way"]
theorem sc_free_goal : FnScope N_free_goal ["_law_left", "_law_room", "_law_names", "_law_deeds"] (defScope s_free_goal) := ⟨rfl, rfl, rfl, by decide +kernel, rfl, by decide +kernel, by decide +kernel⟩

theorem ok_free_goal (tx : Txt K w mg C d es n) {j : Nat} (d_digit : Def P w K mg base "_law_digit" k ["_law_left", "_law_many"] spDigit) (d_free_kids : Def P w K mg base "_law_free_kids" k ["_law_left", "_law_many", "_law_room", "_law_names"] (spKids j)) (d_free_named : Def P w K mg base "_law_free_named" k ["_law_left", "_law_room", "_law_names"] (spNamed (j + 1))) (D : DefAt K mg "_law_free_goal" s_free_goal ["_law_left", "_law_room", "_law_names", "_law_deeds"]) : Def P w K mg base "_law_free_goal" (k + 1) ["_law_left", "_law_room", "_law_names", "_law_deeds"] (spGoal (j + 1)) := by
  refine D.ok sc_free_goal (fun vs H Q E h => ?_) (fun f cdv A outer s H vs Q E hr h => ?_)
  · obtain ⟨l, nm, da, i, ws, us, ns, rfl, _⟩ := h; rfl
  · obtain ⟨l, nm, da, i, ws, us, ns, rfl, h1, hi, hl, hn, ho, hd, h⟩ := h
    have hu := hu_of hr
    refine ⟨_, (pss_cons (ps_set (i := 4) sc_free_goal.nd rfl (by first | exact .inl rfl | exact .inr rfl) (pe_cl d_digit (hr.mono (by omega)) (pa_cons (pv 0) (pa_cons pe_int pa_nil))))
      (pss_cons (ps_if (pt_cmpR op_eq (pv 4) pe_int (nomark _)) (pss_one (ps_ret (pe_tupN (pa_cons pe_str (pa_cons pe_str (pa_cons (pe_tupN pa_nil) pa_nil)))))) pss_nil)
      (pss_cons (ps_if (PW.pt (pw_and (pt_cmpR op_eq (pv 4) pe_int (nomark _)) (pw_and1 (pt_cmpR op_eq (pe_cl d_digit (hr.mono (by omega)) (pa_cons (pv 0) (pa_cons pe_int pa_nil))) pe_int (nomark _))))) (pss_one (ps_ret (pe_tupN (pa_cons pe_str (pa_cons pe_str (pa_cons (pe_tupN (pa_cons (pe_cl d_free_named (hr.mono (by omega)) (pa_cons (pv 0) (pa_cons (pe_op op_sub (pv 1) pe_int) (pa_cons (pv 2) pa_nil)))) pa_nil)) pa_nil)))))) pss_nil)
      (pss_cons (ps_if (PW.pt (pw_or (pt_cmpR op_eq (pv 4) pe_int (nomark _)) (pw_or1 (pt_cmpR op_eq (pv 4) pe_int (nomark _))))) (pss_one (ps_ret (pe_tupN (pa_cons pe_str (pa_cons (pe_il (pv 3) (pe_cl d_digit (hr.mono (by omega)) (pa_cons (pv 0) (pa_cons (pe_len (by rfl) tx.len_ (pv 3)) pa_nil)))) (pa_cons (pe_cl d_free_kids (hr.mono (by omega)) (pa_cons (pv 0) (pa_cons pe_int (pa_cons (pe_op op_sub (pv 1) pe_int) (pa_cons (pv 2) pa_nil))))) pa_nil)))))) pss_nil)
      (pss_one (ps_ret (pe_cl d_free_named (hr.mono (by omega)) (pa_cons (pv 0) (pa_cons (pv 1) (pa_cons (pv 2) pa_nil)))))))))), ?_⟩
    have ndl : da ≠ l := ne_len hd hl (by simp)
    walk_at "go"
    intro c H1 hc k1 l1
    have hc : c < 8 := hc
    have n1 := hn.keep ho hl k1
    have d1 : DeedsAt H1 da := k1.obj1 hd ndl
    walk_at "go"
    refine it2 (fun _ => ?_) (fun _ => ?_)
    · walk_at "go"
      intro p H2 n2 k2 h2
      walk_at "go"
      intro q H3 n3 k3 h3
      exact h (.ref q) (.app Deed.keep.sign []) H3 ⟨q, p, [], rfl, h3, k3.tup h2, trivial⟩ (.deed .keep rfl) ⟨by decide +kernel, by decide, trivial⟩ (by simp only [T.size, sizes]; omega) (by walk_at "kp") ((l1.keep k2).keep k3)
    · have rest : ∀ H4, Kp [l] H H4 → LeftAt l H4 → NamesAt H4 nm ws us ns → DeedsAt H4 da → 
        (tSeq (tIfS (tOr (tTest (tOp rEq (tVar 4) (tC (V.int 2)))) (tTest (tOp rEq (tVar 4) (tC (V.int 3)))))
          (tRet (uTup (tCons (tC (V.str "app")) (tCons (uIL (tVar 3) (uCall spDigit (tCons (tVar 0) (tCons (uLen (tVar 3)) tNil)))) (tCons (uCall (spKids j) (tCons (tVar 0) (tCons (tC (V.int 2)) (tCons (tOp (rI0 fun i j => V.int (i - j)) (tVar 1) (tC (V.int 1))) (tCons (tVar 2) tNil))))) tNil))))) tNext)
         (tRet (uCall (spNamed (j + 1)) (tCons (tVar 0) (tCons (tVar 1) (tCons (tVar 2) tNil))))) { nx := fun _ H' => Q .non H', rt := Q } [some (.ref l), some (.int i), some (.ref nm), some (.ref da), some (.int c)] H4 : Prop) := by
        intro H4 k4 l4 n4 d4
        have d4' : H4 da = some (.lst [.str "=", .str ":=", .str "<", .str "<="]) := d4
        walk_at "go"
        refine it2 (fun _ => iteT ?_) (fun _ => ?_)
        case' refine_2 => (walk_at "go"; refine it2 (fun _ => ?_) (fun _ => ?_))
        case' refine_2.refine_2 => exact ⟨_, rfl, _, rfl, _, rfl, l, nm, i, ws, us, ns, rfl, by omega, hi, l4, n4, ho, fun v s ts H5 a1 a2 a3 a4 k5 l5 => h v _ H5 a1 (.named a2) a3 a4 (k4.trans k5) l5⟩
        all_goals
          walk_at "go"
          intro c2 H5 hc2 k5 l5
          have hc2 : c2 < 4 := hc2
          obtain ⟨q, eq, hq⟩ : ∃ q : Deed, ([.str "=", .str ":=", .str "<", .str "<="] : List V)[c2]? = some (.str q.sign) ∧ q.many = 2 := by
            match c2, hc2 with
            | 0, _ => exact ⟨.eq, rfl, rfl⟩
            | 1, _ => exact ⟨.asg, rfl, rfl⟩
            | 2, _ => exact ⟨.lt, rfl, rfl⟩
            | 3, _ => exact ⟨.le, rfl, rfl⟩
          have n5 := n4.keep ho l4 k5
          refine ⟨da, _, c2, .str q.sign, rfl, rfl, k5.obj1 d4 ndl, eq, _, rfl, _, rfl, _, _, rfl, rfl, _, rfl, l, nm, 2, _, ws, us, ns, rfl, ?_, by decide, ?_, l5, n5, ho, fun p xs ts H6 a1 a2 a3 a4 a5 k6 l6 => ?_⟩
          · show (2 : Int) ≤ i - 1
            omega
          · show i - 1 ≤ _
            omega
          · have a5 : (sizes ts : Int) ≤ i - 1 := a5
            walk_at "go"
            intro r H7 n7 k7 h7
            exact h (.ref r) (.app q.sign ts) H7 ⟨r, p, xs, rfl, h7, k7.tup a1, a2.kp k7⟩ (.deed q (by rw [a4, hq])) ⟨by cases q <;> decide +kernel, by omega, a3⟩ (by simp only [T.size]; omega) (by walk_at "kp") (l6.keep k7)
      walk_at "go"
      refine it2 (fun _ => ?_) (fun _ => rest H1 k1 l1 n1 d1)
      walk_at "go"
      intro c3 H2 hc3 k2 l2
      walk_at "go"
      have n2 := n1.keep ho l1 k2
      refine it2 (fun _ => ?_) (fun _ => rest H2 (k1.trans k2) l2 n2 (k2.obj1 d1 ndl))
      refine ⟨_, rfl, _, rfl, _, _, rfl, rfl, _, rfl, l, nm, i - 1, ws, us, ns, rfl, by omega, by omega, l2, n2, ho, fun v s ts H3 a1 a2 a3 a4 k3 l3 => ?_⟩
      walk_at "go"
      intro p H4 n4 k4 h4
      walk_at "go"
      intro q H5 n5 k5 h5
      refine h (.ref q) (.app "not" [.app s ts]) H5 ⟨q, p, [v], rfl, h5, k5.tup h4, (a1.kp k4).kp k5, trivial⟩ (.nt a2) ⟨by decide +kernel, Nat.le_of_ble_eq_true rfl, a3, trivial⟩ ?_ (by walk_at "kp") ((l3.keep k4).keep k5)
      simp only [T.size, sizes] at a4 ⊢; omega
end
end GT
/-! GtK: defs of the law: rules are drawn. -/
namespace GT
open PySem L2 GL PyProof.Rows RT
/-! tactics: a fact of the heap by what was kept; the reading's small steps -/
local macro_rules | `(tactic| walk_at "hp") => `(tactic| first | assumption | (refine Kp.tup (by assumption) ?_; walk_at "hp") | (refine Kp.obj0 (by assumption) ?_; walk_at "hp") | (refine Kp.obj1 (by assumption) ?_ (by first | assumption | (apply Ne.symm; assumption)); walk_at "hp"))
local macro_rules | `(tactic| walk_at "go") => `(tactic| repeat (first | (refine And.intro ?_ ?_; (first | rfl | walk_at "hp" | decide | (refine Or.inl ?_; walk_at "hp") | (refine Or.inr ?_; walk_at "hp") | (refine SqL.of ?_; walk_at "hp") | exact Nat.le_of_ble_eq_true rfl | exact kvS _ | exact kvI _ | exact cmulL rfl | exact cmulR rfl | exact cpw rfl | exact cdv rfl | omega | (dsimp only; first | decide | omega))) | apply Exists.intro))
local macro_rules | `(tactic| walk_at "kp") => `(tactic| first | assumption | exact Kp.refl _ _ | (refine Kp.trans ?_ (Kp.wk (by assumption) (by simp)); walk_at "kp"))
local macro_rules | `(tactic| walk_at "nn") => `(tactic| first | assumption | (refine Kp.fr (by assumption) _ ?_; walk_at "nn"))

abbrev Rule := GT.T × List GT.T
structure ROk (r : Rule) : Prop where
  hd : ∃ s ks, r.1 = .app s ks ∧ Word s
  ok : r.1.ok
  sz : r.1.size ≤ 24
  len : r.2.length ≤ 6
  gk : ∀ g ∈ r.2, GK g
  goks : oks r.2
  gsz : ∀ g ∈ r.2, g.size ≤ 24
def RA (H : Hp) (v : V) (r : Rule) : Prop := ∃ a hv b gvs, v = .ref a ∧ H a = some (.tup [hv, .ref b]) ∧ H b = some (.tup gvs) ∧ TA .str H hv r.1 ∧ TAs .str H gvs r.2
def RAs (H : Hp) : List V → List Rule → Prop
  | [], [] => True
  | v :: vs, r :: rs => RA H v r ∧ RAs H vs rs
  | _, _ => False
theorem RA.kp {S : List Addr} {H H' : Hp} {v : V} {r : Rule} (h : RA H v r) (k : Kp S H H') : RA H' v r := by
  obtain ⟨a, hv, b, gvs, e, h1, h2, h3, h4⟩ := h
  exact ⟨a, hv, b, gvs, e, k.tup h1, k.tup h2, h3.kp k, h4.kp k⟩
theorem RAs.kp {S : List Addr} {H H' : Hp} (k : Kp S H H') : ∀ {vs : List V} {rs : List Rule}, RAs H vs rs → RAs H' vs rs
  | [], [], _ => trivial
  | v :: vs, r :: rs, ⟨h1, h2⟩ => ⟨h1.kp k, RAs.kp k h2⟩
  | [], _ :: _, h => False.elim h
  | _ :: _, [], h => False.elim h
theorem RAs.len {H : Hp} : ∀ {vs : List V} {rs : List Rule}, RAs H vs rs → vs.length = rs.length
  | [], [], _ => rfl
  | v :: vs, r :: rs, ⟨_, h⟩ => by rw [List.length_cons, List.length_cons, RAs.len h]
  | [], _ :: _, h => False.elim h
  | _ :: _, [], h => False.elim h
theorem RAs.append {H : Hp} : ∀ {vs : List V} {rs : List Rule} {us : List V} {qs : List Rule}, RAs H vs rs → RAs H us qs → RAs H (vs ++ us) (rs ++ qs)
  | [], [], _, _, _, h => h
  | v :: vs, r :: rs, _, _, ⟨h1, h2⟩, h => ⟨h1, RAs.append h2 h⟩
  | [], _ :: _, _, _, h, _ => False.elim h
  | _ :: _, [], _, _, h, _ => False.elim h
theorem RAs.rev {H : Hp} : ∀ {vs : List V} {rs : List Rule}, RAs H vs rs → RAs H vs.reverse rs.reverse
  | [], [], _ => trivial
  | v :: vs, r :: rs, ⟨h1, h2⟩ => by
    rw [List.reverse_cons, List.reverse_cons]
    exact (RAs.rev h2).append ⟨h1, trivial⟩
  | [], _ :: _, h => False.elim h
  | _ :: _, [], h => False.elim h
theorem RAs.get {H : Hp} : ∀ {vs : List V} {rs : List Rule} {i : Nat} {r : Rule}, RAs H vs rs → rs[i]? = some r → ∃ v, vs[i]? = some v ∧ RA H v r
  | v :: vs, r :: rs, 0, _, ⟨h, _⟩, e => by cases e; exact ⟨v, rfl, h⟩
  | v :: vs, r :: rs, i + 1, u, ⟨_, h⟩, e => by
    obtain ⟨t', h1, h2⟩ := RAs.get (i := i) (r := u) h (by simpa using e)
    exact ⟨t', by simpa using h1, h2⟩
  | [], [], _, _, _, e => by simp at e
  | [], _ :: _, _, _, h, _ => False.elim h
  | _ :: _, [], _, _, h, _ => False.elim h
section
variable {P : Program} {w : World} {K : PySem.W.Frag} {mg : Str → Option Value} {base : Heap} {C d : Addr} {es : Array DictEntry} {n : Nat} {k : Nat}
def spFRule : Sp := fun vs H Q _ => ∃ (z : Int) (m : Nat) (i : Int) (nm da : Addr) (ws us : List Str) (ns : List Nat), vs = [.int z, .int m, .int i, .ref nm, .ref da] ∧ m ≤ 6 ∧ 3 ≤ i ∧ i ≤ 24 ∧ NamesAt H nm ws us ns ∧ NamesOk ws us ns ∧ DeedsAt H da ∧
  ∀ v r H', RA H' v r → ROk r → Kp [] H H' → Q v H'
abbrev s_free_rule : Stmt := (topS 27)
abbrev N_free_rule : List Str := ["_law_cell", "_law_most", "_law_room", "_law_names", "_law_deeds", "_law_left", "_law_head_here", "_law_goals", "_law_k"]
theorem sc_free_rule : FnScope N_free_rule ["_law_cell", "_law_most", "_law_room", "_law_names", "_law_deeds"] (defScope s_free_rule) := ⟨rfl, rfl, rfl, by decide +kernel, rfl, by decide +kernel, by decide +kernel⟩

theorem ok_free_rule (tx : Txt K w mg C d es n) (d_digit : Def P w K mg base "_law_digit" k ["_law_left", "_law_many"] spDigit) (d_free_named : Def P w K mg base "_law_free_named" k ["_law_left", "_law_room", "_law_names"] (spNamed 24)) (d_free_goal : Def P w K mg base "_law_free_goal" k ["_law_left", "_law_room", "_law_names", "_law_deeds"] (spGoal 24)) (D : DefAt K mg "_law_free_rule" s_free_rule ["_law_cell", "_law_most", "_law_room", "_law_names", "_law_deeds"]) : Def P w K mg base "_law_free_rule" (k + 1) ["_law_cell", "_law_most", "_law_room", "_law_names", "_law_deeds"] spFRule := by
  refine D.ok sc_free_rule (fun vs H Q E h => ?_) (fun f cdv A outer s H vs Q E hr h => ?_)
  · obtain ⟨z, m, i, nm, da, ws, us, ns, rfl, _⟩ := h; rfl
  · obtain ⟨z, m, i, nm, da, ws, us, ns, rfl, hm, h3, h24, hn, ho, hd, h⟩ := h
    have hu := hu_of hr
    refine ⟨_, (pss_cons (ps_set (i := 5) sc_free_rule.nd rfl (by first | exact .inl rfl | exact .inr rfl) (pe_lstN (pa_cons (pv 0) pa_nil)))
      (pss_cons (ps_set (i := 6) sc_free_rule.nd rfl (by first | exact .inl rfl | exact .inr rfl) (pe_cl d_free_named (hr.mono (by omega)) (pa_cons (pv 5) (pa_cons (pv 2) (pa_cons (pv 3) pa_nil)))))
      (pss_cons ((lcR (x1 := "_law_k") (i := 8) rfl sc_free_rule.nd (by rfl) tx.range_ (pe_cl d_digit (hr.mono (by omega)) (pa_cons (pv 5) (pa_cons (pe_op op_add (pv 1) pe_int) pa_nil))) (blkOk_by (own := [("_law_k", 8)]) (N := N_free_rule) (sc := defScope s_free_rule) (by decide +kernel)) (fun _ _ _ _ _ => pg_name (i := 8) sc_free_rule.nd rfl (Or.inl rfl)) (fun _ _ _ _ _ => (pe_cl d_free_goal (hr.mono (by omega)) (pa_cons (pv 5) (pa_cons (pv 2) (pa_cons (pv 3) (pa_cons (pv 4) pa_nil))))))).ps (i := 7) sc_free_rule.nd rfl rfl (sw_true rfl rfl rfl (by decide +kernel)))
      (pss_one (ps_ret (pe_tupN (pa_cons (pv 6) (pa_cons (pe_tuple (by rfl) tx.tuple_ (pv 7)) pa_nil)))))))), ?_⟩
    walk_at "go"
    intro l H1 n1 k1 h1
    have l1 : LeftAt l H1 := ⟨z, h1⟩
    have hn1 := hn.keep0 k1
    have hd1 : DeedsAt H1 da := k1.obj0 hd
    refine ⟨_, rfl, _, rfl, _, rfl, l, nm, i, ws, us, ns, rfl, by omega, h24, l1, hn1, ho, fun v s hs H2 a1 a2 a3 a4 k2 l2 => ?_⟩
    have ndl : da ≠ l := ne_len hd1 l1 (by simp)
    refine ⟨_, rfl, _, rfl, _, _, rfl, rfl, l, m + 1, rfl, by omega, ?_, l2, fun c H3 hc k3 l3 => ?_⟩
    · exact Nat.lt_of_le_of_lt (Nat.add_le_add_right hm 1) (by decide)
    · have n3 := (hn1.keep ho l1 k2).keep ho l2 k3
      have d3 : DeedsAt H3 da := k3.obj1 (k2.obj1 hd1 ndl) ndl
      have k13 : Kp [] H H3 := (((k1.any [l]).trans k2).trans k3).one rfl n1
      refine ⟨c, rfl, [l], _, LcOk.mk' (fun q ys H => LeftAt l H ∧ ∃ ts : List GT.T, TAs .str H ys ts ∧ ts.length = q ∧ (∀ g ∈ ts, GK g) ∧ oks ts ∧ ∀ g ∈ ts, g.size ≤ 24) (by omega) (fun a ha => ?_) ⟨l3, [], trivial, rfl, by simp, trivial, by simp⟩ ?_ ?_ ?_ ?_⟩
      · rw [List.mem_singleton] at ha; subst ha
        obtain ⟨z, e⟩ := l3; rw [e]; intro q; cases q
      · rintro q ys H' H'' D hD kk ⟨l', ts, b1, b2⟩ kD
        refine ⟨l'.keep1 kD ?_, ts, b1.kp kD, b2⟩
        rintro rfl
        obtain ⟨z, e⟩ := l3; rw [e] at hD; cases hD
      · rintro q ys H' ⟨l', ts, b1, b2, _⟩
        rw [b1.len, b2]
      · rintro q ys H' hq kk ⟨l', ts, b1, b2, b3, b4, b5⟩
        refine ⟨_, rfl, _, rfl, _, rfl, _, rfl, l, nm, da, i, ws, us, ns, rfl, h3, h24, l', n3.keep ho l3 kk, ho, kk.obj1 d3 ndl, fun v t H'' c1 c2 c3 c4 kv lv => ⟨kv, kk.trans kv, lv, ts ++ [t], (b1.kp kv).snoc c1, by simp [b2], ?_, (oks_append _ _).mpr ⟨b4, c3, trivial⟩, ?_⟩⟩
        · intro g hg
          rcases List.mem_append.mp hg with hg | hg
          · exact b3 g hg
          · rw [List.mem_singleton] at hg; rw [hg]; exact c2
        · intro g hg
          rcases List.mem_append.mp hg with hg | hg
          · exact b5 g hg
          · rw [List.mem_singleton] at hg; rw [hg]; omega
      · rintro ys H4 p np kk ⟨l4, ts, b1, b2, b3, b4, b5⟩ e
        walk_at "go"
        intro p5 H5 n5 k5 h5
        walk_at "go"
        intro p6 H6 n6 k6 h6
        have k04 : Kp [] H H4 := ((((k1.any [l]).trans k2).trans k3).trans kk).one rfl n1
        have hsz : (GT.T.app s hs).size ≤ 24 := by omega
        have hlen : ts.length ≤ 6 := by have hc : c < m + 1 := hc; omega
        refine h (.ref p6) (.app s hs, ts) H6 ⟨p6, v, p5, ys, rfl, h6, k6.tup h5, (((a1.kp k3).kp kk).kp k5).kp k6, (b1.kp k5).kp k6⟩ ⟨⟨s, hs, rfl, a2⟩, a3, hsz, hlen, b3, b4, b5⟩ (by walk_at "kp")
abbrev s_rules : Stmt := (topS 40)
abbrev N_rules : List Str := ["_law_script", "_law_kinds", "_law_last", "_law_facts", "_law_room", "_law_left", "_law_k", "_law_many", "_law_names", "_law_deeds", "_law_rules_here"]
theorem sc_rules : FnScope N_rules ["_law_script"] (defScope s_rules) := ⟨rfl, rfl, rfl, by decide +kernel, rfl, by decide +kernel, by decide +kernel⟩

def spRules (K : PySem.W.Frag) : Sp := fun vs H Q _ => ∃ (a : Addr) (is : List Int), vs = [.ref a] ∧ SqL K H a (is.map .int) ∧
  ∀ p vs rs H', H' p = some (.lst vs) → RAs H' vs rs → (∀ r ∈ rs, ROk r) → rs.length ≤ 40 → Kp [] H H' → Q (.ref p) H'
theorem ok_rules (tx : Txt K w mg C d es n) (d_digit : Def P w K mg base "_law_digit" k ["_law_left", "_law_many"] spDigit) (d_cell_at : Def P w K mg base "_law_cell_at" k ["_law_script", "_law_k"] (spCellAt K)) (d_big : Def P w K mg base "_law_big" k ["_law_script", "_law_k"] (spBig K)) (d_drawn : Def P w K mg base "_law_drawn" k ["_law_script", "_law_k"] (spBig K)) (d_free_words : Def P w K mg base "_law_free_words" k ["_law_script", "_law_kinds"] (spFreeWords K)) (d_free_rule : Def P w K mg base "_law_free_rule" k ["_law_cell", "_law_most", "_law_room", "_law_names", "_law_deeds"] spFRule) (D : DefAt K mg "_law_rules" s_rules ["_law_script"]) : Def P w K mg base "_law_rules" (k + 1) ["_law_script"] (spRules K) := by
  refine D.ok sc_rules (fun vs H Q E h => ?_) (fun f cdv A outer s H vs Q E hr h => ?_)
  · obtain ⟨a, is, rfl, _⟩ := h; rfl
  · obtain ⟨a, is, rfl, hs, h⟩ := h
    have hu := hu_of hr
    refine ⟨_, (pss_cons (ps_set (i := 1) sc_rules.nd rfl (by first | exact .inl rfl | exact .inr rfl) (pe_lstN pa_nil))
      (pss_cons (ps_set (i := 2) sc_rules.nd rfl (by first | exact .inl rfl | exact .inr rfl) (pe_callB (call_min2 rfl) (by rfl) tx.min_ boot_min (pa_cons pe_int (pa_cons (pe_callB call_len_seq (by rfl) tx.len_ PySem.boot_len (pa_cons (pv 0) pa_nil)) pa_nil))))
      (pss_cons (ps_set (i := 3) sc_rules.nd rfl (by first | exact .inl rfl | exact .inr rfl) pe_int)
      (pss_cons (ps_set (i := 4) sc_rules.nd rfl (by first | exact .inl rfl | exact .inr rfl) pe_int)
      (pss_cons (ps_if (pt_cmpR op_eq (pe_op op_mod (pe_cl d_cell_at (hr.mono (by omega)) (pa_cons (pv 0) (pa_cons pe_int pa_nil))) pe_int) pe_int (nomark _)) (pss_cons (ps_set (i := 5) sc_rules.nd rfl (by first | exact .inl rfl | exact .inr rfl) (pe_lstN (pa_cons (pe_cl d_big (hr.mono (by omega)) (pa_cons (pv 0) (pa_cons pe_int pa_nil))) pa_nil)))
      (pss_cons ((lcR (x1 := "_law_k") (i := 6) rfl sc_rules.nd (by rfl) tx.range_ pe_int (blkOk_by (own := [("_law_k", 6)]) (N := N_rules) (sc := defScope s_rules) (by decide +kernel)) (fun _ _ _ _ _ => pg_name (i := 6) sc_rules.nd rfl (Or.inl rfl)) (fun _ _ _ _ _ => (pe_cl d_digit (hr.mono (by omega)) (pa_cons (pv 5) (pa_cons pe_int pa_nil))))).ps (i := 1) sc_rules.nd rfl rfl (sw_true rfl rfl rfl (by decide +kernel)))
      (pss_cons (ps_set (i := 7) sc_rules.nd rfl (by first | exact .inl rfl | exact .inr rfl) (pe_il (pe_lstN (pa_cons (pe_cl d_digit (hr.mono (by omega)) (pa_cons (pv 5) (pa_cons pe_int pa_nil))) (pa_cons (pe_cl d_digit (hr.mono (by omega)) (pa_cons (pv 5) (pa_cons pe_int pa_nil))) pa_nil))) (pe_op op_fdivW (pe_cl d_digit (hr.mono (by omega)) (pa_cons (pv 5) (pa_cons pe_int pa_nil))) pe_int)))
      (pss_cons (ps_set (i := 2) sc_rules.nd rfl (by first | exact .inl rfl | exact .inr rfl) (pe_op op_add pe_int (pv 7)))
      (pss_cons (ps_set (i := 3) sc_rules.nd rfl (by first | exact .inl rfl | exact .inr rfl) (pe_il (pe_lstN (pa_cons pe_int (pa_cons pe_int pa_nil))) (pe_callTy call_int1 (by rfl) tx.int_ boot_int (pa_cons (pe_cmpR op_gt (pv 7) pe_int (nomark _)) pa_nil))))
      (pss_one (ps_set (i := 4) sc_rules.nd rfl (by first | exact .inl rfl | exact .inr rfl) pe_int))))))) pss_nil)
      (pss_cons (ps_set (i := 8) sc_rules.nd rfl (by first | exact .inl rfl | exact .inr rfl) (pe_cl d_free_words (hr.mono (by omega)) (pa_cons (pv 0) (pa_cons (pv 1) pa_nil))))
      (pss_cons (ps_set (i := 9) sc_rules.nd rfl (by first | exact .inl rfl | exact .inr rfl) (pe_lstN (pa_cons pe_str (pa_cons pe_str (pa_cons pe_str (pa_cons pe_str pa_nil))))))
      (pss_cons (ps_set (i := 10) sc_rules.nd rfl (by first | exact .inl rfl | exact .inr rfl) (pe_lstN pa_nil))
      (pss_cons (ps_forR2 PassesOwn.never rfl (by rfl) tx.range_ pe_int (pv 2) (pg_name (i := 6) sc_rules.nd rfl (by first | exact .inl rfl | exact .inr rfl)) (pss_one (ps_expr (pe_app (pv 10) (pe_cl d_free_rule (hr.mono (by omega)) (pa_cons (pe_cl d_drawn (hr.mono (by omega)) (pa_cons (pv 0) (pa_cons (pv 6) pa_nil))) (pa_cons (pe_op op_mul pe_int (pe_callTy call_int1 (by rfl) tx.int_ boot_int (pa_cons (pe_cmpR op_lt (pv 6) (pv 3) (nomark _)) pa_nil))) (pa_cons (pv 4) (pa_cons (pv 8) (pa_cons (pv 9) pa_nil))))))))))
      (pss_one (ps_ret (pv 10)))))))))))), ?_⟩
    walk_at "go"
    intro p1 H1 n1 k1 h1
    have hs1 := k1.sql hs
    walk_at "go"
    intro z
    walk_at "go"
    have tail : ∀ (H2 : Hp) (kp : Addr) (ns : List Nat) (L : Nat) (F rm : Int) (o5 o6 o7 : Option V), L ≤ 43 → (rm = 24 ∨ rm = 10) → Kp [] H H2 → H2 kp = some (.lst (ns.map fun (i : Nat) => .int i)) → (ns = [] ∨ (ns.length = 4 ∧ ∀ i ∈ ns, i < 5)) →
        tSeq (tAsg (uCall (spFreeWords K) (tCons (tVar 0) (tCons (tVar 1) tNil))) (gName 8))
          (tSeq (tAsg (uLst (tCons (tC (V.str "=")) (tCons (tC (V.str ":=")) (tCons (tC (V.str "<")) (tCons (tC (V.str "<=")) tNil))))) (gName 9))
            (tSeq (tAsg (uLst tNil) (gName 10))
              (tSeq (uForR2 (tC (V.int 3)) (tVar 2) 6
                  (tDrop (uApp (tVar 10) (uCall spFRule (tCons (uCall (spBig K) (tCons (tVar 0) (tCons (tVar 6) tNil)))
                          (tCons (tOp (rI CMul fun i j => V.int (i * j)) (tC (V.int 6))
                              (tCB (fun xs H Q => (∃ i, xs = [V.int i] ∧ Q (V.int i) H) ∨ ∃ k, xs = [V.bl k] ∧ Q (V.int (if k = true then 1 else 0)) H)
                                (tCons (tOp (rI0 fun i j => V.bl (decide (i < j))) (tVar 6) (tVar 3)) tNil)))
                            (tCons (tVar 4) (tCons (tVar 8) (tCons (tVar 9) tNil)))))))))
                (tRet (tVar 10)))))
          { nx := fun _ H' => Q .non H', rt := Q } [some (.ref a), some (.ref kp), some (.int L), some (.int F), some (.int rm), o5, o6, o7, none, none, none] H2 := by
      intro H2 kp ns L F rm o5 o6 o7 hL hrm k2 hk hns
      refine ⟨_, rfl, _, rfl, a, kp, is, ns, rfl, k2.sql hs, hk, fun nm ws us H3 w4 u4 hw hu2 k3 hn => ?_⟩
      have ho : NamesOk ws us ns := ⟨w4, u4, hw, hu2, hns⟩
      walk_at "go"
      intro da H4 n4 k4 h4
      walk_at "go"
      intro p H5 n5 k5 h5
      have hd5 : DeedsAt H5 da := k5.obj0 h4
      have hn5 := (hn.keep0 k4).keep0 k5
      have k05 : Kp [] H H5 := by walk_at "kp"
      walk_at "go"
      refine ⟨⟨fun q σ H' => ∃ vs rs o6, H' p = some (.lst vs) ∧ RAs H' vs rs ∧ (∀ r ∈ rs, ROk r) ∧ rs.length = q ∧ Kp [p] H5 H' ∧
        σ = [some (.ref a), some (.ref kp), some (.int L), some (.int F), some (.int rm), o5, o6, o7, some (.ref nm), some (.ref da), some (.ref p)], ⟨[], [], o6, h5, trivial, by simp, rfl, Kp.refl _ _, rfl⟩, ?_, ?_⟩⟩
      · rintro q σ H6 hq ⟨vs, rs, o6, e1, e2, e3, e4, k6, rfl⟩
        have k46 : Kp [] H4 H6 := ((k5.any [p]).trans k6).one rfl n5
        have k06 : Kp [] H H6 := (by walk_at "kp" : Kp [] H H4).trans k46
        have hq : 3 + q < L := hq
        refine ⟨_, rfl, p, vs, rfl, e1, _, rfl, _, rfl, a, is, 3 + q, rfl, k06.sql hs, fun z H7 k7 => ?_⟩
        have k47 := k46.trans k7
        walk_at "go"
        refine .inr ⟨_, rfl, ?_⟩
        obtain ⟨m, hm, em⟩ : ∃ m : Nat, m ≤ 6 ∧ (6 : Int) * (if decide (((3 + q : Nat) : Int) < F) = true then 1 else 0) = (m : Nat) := by
          by_cases c : ((3 + q : Nat) : Int) < F
          · exact ⟨6, by omega, by rw [decide_eq_true c]; rfl⟩
          · exact ⟨0, by omega, by rw [decide_eq_false c]; rfl⟩
        refine ⟨_, _, rfl, rfl, .inl ⟨by decide, by decide⟩, _, rfl, _, rfl, _, rfl, z, m, rm, nm, da, ws, us, ns, ?_, hm, by omega, by omega, (hn.keep0 k4).keep0 k47, ho, k47.obj0 h4, fun v r H8 b1 b2 k8 => ?_⟩
        · show [V.int z, V.int ((6 : Int) * (if decide (((3 + q : Nat) : Int) < F) = true then 1 else 0)), V.int rm, V.ref nm, V.ref da] = _
          rw [em]
        · refine ⟨vs, (k8.obj0 (k7.obj0 e1)), by rw [e2.len, e4]; omega, fun H9 k9 h9 => ?_⟩
          have k69 : Kp [p] H6 H9 := by exact ((k7.any _).trans (k8.any _)).trans k9
          refine ⟨vs ++ [v], rs ++ [r], _, h9, (e2.kp k69).append ⟨b1.kp k9, trivial⟩, ?_, by simp [e4], k6.trans k69, rfl⟩
          intro r' hr'
          rcases List.mem_append.mp hr' with hr' | hr'
          · exact e3 r' hr'
          · rw [List.mem_singleton] at hr'; rw [hr']; exact b2
      · rintro σ H6 ⟨vs, rs, o6, e1, e2, e3, e4, k6, rfl⟩
        have e4 : rs.length = L - 3 := e4
        have k46 : Kp [] H4 H6 := ((k5.any [p]).trans k6).one rfl n5
        exact ⟨_, rfl, h p vs rs H6 e1 e2 e3 (by omega) ((by walk_at "kp" : Kp [] H H4).trans k46)⟩
    refine it2 (fun _ => ?_) (fun _ => ?_)
    · refine ⟨_, rfl, a, is, 50, rfl, hs1, fun z2 H2 k2 => ?_⟩
      walk_at "go"
      intro l H3 n3 k3 h3
      have l3 : LeftAt l H3 := ⟨_, h3⟩
      have kl : Kp [] H H2 := by walk_at "kp"
      refine ⟨4, rfl, [l], _, LcOk.mk' (fun q ys H => LeftAt l H ∧ ∃ ns : List Nat, ys = ns.map (fun (i : Nat) => V.int i) ∧ ns.length = q ∧ ∀ i ∈ ns, i < 5) (by decide) (fun a ha => ?_) ⟨l3, [], rfl, rfl, by simp⟩ ?_ ?_ ?_ ?_⟩
      · rw [List.mem_singleton] at ha; subst ha
        rw [h3]; intro q; cases q
      · rintro q ys H' H'' D hD kk ⟨l', ts, b1, b2⟩ kD
        refine ⟨l'.keep1 kD ?_, ts, b1, b2⟩
        rintro rfl
        rw [h3] at hD; cases hD
      · rintro q ys H' ⟨l', ts, b1, b2, _⟩
        rw [b1, List.length_map, b2]
      · rintro q ys H' hq kk ⟨l', ts, b1, b2, b3⟩
        refine ⟨_, rfl, l, 5, rfl, by decide, by decide, l', fun c H'' hc kv lv => ⟨kv, kk.trans kv, lv, ts ++ [c], by simp [b1], by simp [b2], fun i hi => ?_⟩⟩
        rcases List.mem_append.mp hi with hi | hi
        · exact b3 i hi
        · rw [List.mem_singleton] at hi; rw [hi]; exact hc
      · rintro ys H4 kp np kk ⟨l4, ns, b1, b2, b3⟩ e
        subst b1
        have nkl : kp ≠ l := fun e => by rw [e, h3] at np; cases np
        refine ⟨_, rfl, l, 9, rfl, by decide, by decide, l4, fun c1 H5 hc1 k5 l5 => ?_⟩
        refine ⟨_, rfl, l, 41, rfl, by decide, by decide, l5, fun c2 H6 hc2 k6 l6 => ?_⟩
        walk_at "go"
        intro p7 H7 n7 k7 h7
        have l7 := l6.keep k7
        have n7l : p7 ≠ l := fun e => by obtain ⟨z, e1⟩ := l6; rw [e] at n7; rw [n7] at e1; cases e1
        refine ⟨_, rfl, l, 4, rfl, by decide, by decide, l7, fun c3 H8 hc3 k8 l8 => ?_⟩
        obtain ⟨m, em, hm⟩ : ∃ m : Nat, ([V.int (c1 : Nat), V.int (c2 : Nat)] : List V)[c3 / 3]? = some (.int (m : Nat)) ∧ m ≤ 40 := by
          have hc1 : c1 < 9 := hc1
          have hc2 : c2 < 41 := hc2
          have hc3 : c3 < 4 := hc3
          by_cases q : c3 < 3
          · have e0 : c3 / 3 = 0 := by omega
            rw [e0]; exact ⟨c1, rfl, by omega⟩
          · have e0 : c3 / 3 = 1 := by omega
            rw [e0]; exact ⟨c2, rfl, by omega⟩
        walk_at "go"
        obtain ⟨b, F, hb, eF⟩ : ∃ (b : Nat) (F : Int), (if decide ((8 : Int) < (m : Int)) = true then (1 : Int) else 0) = (b : Nat) ∧ ([V.int 43, V.int 9] : List V)[b]? = some (.int F) := by
          by_cases q : (8 : Int) < m
          · exact ⟨1, 9, by rw [decide_eq_true q]; rfl, rfl⟩
          · exact ⟨0, 43, by rw [decide_eq_false q]; rfl, rfl⟩
        intro p9 H9 n9 k9 h9
        walk_at "go"
        refine .inr ⟨_, rfl, ?_⟩
        refine ⟨p9, _, b, _, rfl, ?_, h9, eF, ?_⟩
        · show V.int (if decide ((8 : Int) < (m : Int)) = true then (1 : Int) else 0) = _
          rw [hb]
        · have k39 : Kp [] H2 H9 := ((((((k3.any [l]).trans kk).trans k5).trans k6).trans (k7.any _)).trans (k8.trans (k9.any _))).one rfl n3
          have e9 := k9.obj0 (k8.obj1 (k7.obj0 (k6.obj1 (k5.obj1 e nkl) nkl)) nkl)
          exact tail H9 kp ns (3 + m) F 10 _ _ _ (by omega) (.inr rfl) (kl.trans k39) e9 (.inr ⟨b2, b3⟩)
    · have em : (if (((is.map V.int).length : Nat) : Int) < 43 then (((is.map V.int).length : Nat) : Int) else 43) = ((min 43 is.length : Nat) : Int) := by
        rw [List.length_map]; split <;> omega
      have := tail H1 p1 [] (min 43 is.length) 15 24 none none none (by omega) (.inl rfl) k1 h1 (.inl rfl)
      rw [← em] at this
      exact this
end
end GT
/-! GtO: names in order; the maker's state. -/
namespace GT
open PySem L2 GL PyProof.Rows RT
/-! tactics: a fact of the heap by what was kept; the reading's small steps -/
local macro_rules | `(tactic| walk_at "hp") => `(tactic| first | assumption | (refine Kp.tup (by assumption) ?_; walk_at "hp") | (refine Kp.obj0 (by assumption) ?_; walk_at "hp") | (refine Kp.obj1 (by assumption) ?_ (by first | assumption | (apply Ne.symm; assumption)); walk_at "hp"))
local macro_rules | `(tactic| walk_at "go") => `(tactic| repeat (first | (refine And.intro ?_ ?_; (first | rfl | walk_at "hp" | decide | (refine Or.inl ?_; walk_at "hp") | (refine Or.inr ?_; walk_at "hp") | (refine SqL.of ?_; walk_at "hp") | exact Nat.le_of_ble_eq_true rfl | exact kvS _ | exact kvI _ | exact cmulL rfl | exact cmulR rfl | exact cpw rfl | exact cdv rfl | omega | (dsimp only; first | decide | omega))) | apply Exists.intro))
local macro_rules | `(tactic| walk_at "kp") => `(tactic| first | assumption | exact Kp.refl _ _ | (refine Kp.trans ?_ (Kp.wk (by assumption) (by simp)); walk_at "kp"))
local macro_rules | `(tactic| walk_at "nn") => `(tactic| first | assumption | (refine Kp.fr (by assumption) _ ?_; walk_at "nn"))

/-! ### dicts whose every value is True -/
section
variable {κ : Type} [DecidableEq κ] {α : Type} [DecidableEq α]
theorem valV_mapc (g : α → κ) (hg : ∀ x y, g x = g y → x = y) (v : V) (x : α) : ∀ l : List α, valV (l.map fun y => (g y, v)) (g x) = if x ∈ l then some v else none
  | [] => rfl
  | y :: r => by
    rw [List.map_cons]
    by_cases e : y = x
    · subst e
      rw [valV_pos (p := (g y, v)) rfl, if_pos List.mem_cons_self]
    · rw [valV_neg (p := (g y, v)) (fun z => e (hg _ _ z)), valV_mapc g hg v x r]
      by_cases h : x ∈ r
      · rw [if_pos h, if_pos (List.mem_cons_of_mem _ h)]
      · rw [if_neg h, if_neg]
        intro z
        rcases List.mem_cons.mp z with z | z
        · exact e z.symm
        · exact h z
theorem putK_mapc (g : α → κ) (hg : ∀ x y, g x = g y → x = y) (v : V) (x : α) (l : List α) : putK (l.map fun y => (g y, v)) (g x) v = (if x ∈ l then l else l ++ [x]).map fun y => (g y, v) := by
  by_cases h : x ∈ l
  · rw [if_pos h]
    unfold putK
    rw [valV_any, valV_mapc g hg v x l, if_pos h]
    have e1 : (some v).isSome = true := rfl
    rw [if_pos e1, List.map_map]
    refine List.map_congr_left fun y _ => ?_
    show (if g y = g x then (g y, v) else (g y, v)) = (g y, v)
    split <;> rfl
  · rw [if_neg h, putK_new _ (by rw [valV_mapc g hg v x l, if_neg h])]
    simp
end
/-! ### slots -/
def slkF : Nat → List Str → List (L2.Key × V)
  | _, [] => []
  | i, x :: r => (.inr x, .int (i : Nat)) :: slkF (i + 1) r
abbrev slk (ns : List Str) : List (L2.Key × V) := slkF 0 ns
theorem slkF_len : ∀ (l : List Str) (i : Nat), (slkF i l).length = l.length
  | [], _ => rfl
  | x :: r, i => by rw [slkF, List.length_cons, List.length_cons, slkF_len r]
theorem slkF_snoc (x : Str) : ∀ (l : List Str) (i : Nat), slkF i (l ++ [x]) = slkF i l ++ [(.inr x, .int ((i + l.length : Nat) : Int))]
  | [], i => rfl
  | y :: r, i => by
    show (_, _) :: slkF (i + 1) (r ++ [x]) = _
    rw [slkF_snoc x r (i + 1)]
    have e : i + 1 + r.length = i + (y :: r).length := by simp; omega
    rw [e]; rfl
theorem valV_slkF (x : Str) : ∀ (l : List Str) (i : Nat), valV (slkF i l) (.inr x : L2.Key) = if x ∈ l then some (.int ((i + l.idxOf x : Nat) : Int)) else none
  | [], i => rfl
  | y :: r, i => by
    by_cases e : y = x
    · subst e
      rw [slkF, valV_pos (p := ((.inr y : L2.Key), V.int ((i : Nat) : Int))) rfl, if_pos List.mem_cons_self]
      simp
    · have ne : ¬ ((.inr y : L2.Key) = .inr x) := fun z => e (Sum.inr.inj z)
      rw [slkF, valV_neg (p := ((.inr y : L2.Key), V.int ((i : Nat) : Int))) ne, valV_slkF x r (i + 1)]
      by_cases h : x ∈ r
      · rw [if_pos h, if_pos (List.mem_cons_of_mem _ h), List.idxOf_cons]
        have : (y == x) = false := by simpa using e
        rw [this]
        congr 2
        show ((i + 1 + r.idxOf x : Nat) : Int) = ((i + (r.idxOf x + 1) : Nat) : Int)
        omega
      · rw [if_neg h, if_neg]
        intro z
        rcases List.mem_cons.mp z with z | z
        · exact e z.symm
        · exact h z
theorem slk_get {l : List Str} {x : Str} (h : x ∈ l) : valV (slk l) (.inr x : L2.Key) = some (.int ((sl l x : Nat) : Int)) := by
  rw [valV_slkF, if_pos h]
  unfold sl; congr 3; omega
theorem slk_put {l : List Str} {x : Str} (h : x ∉ l) : putK (slk l) (.inr x : L2.Key) (.int ((l.length : Nat) : Int)) = slk (l ++ [x]) := by
  rw [putK_new _ (by rw [valV_slkF, if_neg h])]
  show slkF 0 l ++ _ = slkF 0 (l ++ [x])
  rw [slkF_snoc, Nat.zero_add]
/-- names with True -/
abbrev nmk (l : List Str) : List (L2.Key × V) := l.map fun x => (.inr x, .bl true)
theorem nmk_put (l : List Str) (x : Str) : putK (nmk l) (.inr x : L2.Key) (.bl true) = nmk (ad l x) := by
  have := putK_mapc (κ := L2.Key) (fun x : Str => Sum.inr x) (fun x y h => Sum.inr.inj h) (.bl true) x l
  unfold nmk ad
  exact this
abbrev mtk (l : List Nat) : List (L2.Key × V) := l.map fun x => (.inl ((x : Nat) : Int), .bl true)
theorem mtk_put (l : List Nat) (x : Nat) : putK (mtk l) (.inl ((x : Nat) : Int) : L2.Key) (.bl true) = mtk (if x ∈ l then l else l ++ [x]) :=
  putK_mapc (κ := L2.Key) (fun x : Nat => Sum.inl ((x : Nat) : Int)) (fun x y h => by have := Sum.inl.inj h; omega) (.bl true) x l
theorem mtk_get (l : List Nat) (x : Nat) : valV (mtk l) (.inl ((x : Nat) : Int) : L2.Key) = if x ∈ l then some (.bl true) else none :=
  valV_mapc (κ := L2.Key) (fun x : Nat => Sum.inl ((x : Nat) : Int)) (fun x y h => by have := Sum.inl.inj h; omega) (.bl true) x l
theorem sizes_rev : ∀ us : List GT.T, sizes us.reverse = sizes us
  | [] => rfl
  | t :: r => by
    rw [List.reverse_cons, sizes_append, sizes_rev r]
    simp only [sizes]; omega
theorem ad_len (l : List Str) (x : Str) : (ad l x).length ≤ l.length + 1 := by unfold ad; split <;> simp
/-- a stack of terms, its top last: what it still names -/
theorem TAs.last {f : Str → V} {H : Hp} {vs : List V} {us : List GT.T} (h : TAs f H vs us) (n : us.length ≠ 0) : ∃ us' t vs' v, us = us' ++ [t] ∧ vs = vs' ++ [v] ∧ TAs f H vs' us' ∧ TA f H v t := by
  rcases List.eq_nil_or_concat us with e | ⟨us', t, e⟩
  · rw [e] at n; exact absurd rfl n
  · rw [List.concat_eq_append] at e
    subst e
    obtain ⟨v1, v2, e1, h1, h2⟩ := TAs.split h
    match v2, h2 with
    | [v], ⟨h2, _⟩ => exact ⟨us', t, v1, v, rfl, e1, h1, h2⟩
section
variable {P : Program} {w : World} {K : PySem.W.Frag} {mg : Str → Option Value} {base : Heap} {C d : Addr} {es : Array DictEntry} {n : Nat} {k : Nat}
abbrev s_unknowns_of : Stmt := (topS 1)
abbrev N_unknowns_of : List Str := ["terms", "found", "left", "term"]
theorem sc_unknowns_of : FnScope N_unknowns_of ["terms"] (defScope s_unknowns_of) := ⟨rfl, rfl, rfl, by decide +kernel, rfl, by decide +kernel, by decide +kernel⟩

def spUnknowns : Sp := fun vs H Q _ => ∃ (a : Addr) (xs : List V) (ts : List GT.T), vs = [.ref a] ∧ H a = some (.lst xs) ∧ TAs .str H xs ts ∧ sizes ts ≤ 1000 ∧
  ∀ p H', H' p = some (.lst ((names (occs ts)).map .str)) → H p = none → Kp [] H H' → Q (.ref p) H'
def Wun (a p q : Addr) (H2 : Hp) (g : List Str) : Nat → L2.St → Hp → Prop := fun m σ H' => ∃ (done : List Str) (ws : List V) (us : List GT.T) (o : Option V), H' p = some (.dK (nmk done)) ∧ H' q = some (.lst ws) ∧ TAs .str H' ws us ∧ m = sizes us ∧
  (occs us.reverse).foldl ad done = g ∧ done.length + sizes us ≤ 1000 ∧ Kp [p, q] H2 H' ∧ σ = [some (.ref a), some (.ref p), some (.ref q), o]
theorem ok_unknowns_of (tx : Txt K w mg C d es n) (D : DefAt K mg "unknowns_of" s_unknowns_of ["terms"]) : Def P w K mg base "unknowns_of" (k + 1) ["terms"] spUnknowns := by
  refine D.ok sc_unknowns_of (fun vs H Q E h => ?_) (fun f cdv A outer s H vs Q E hr h => ?_)
  · obtain ⟨a, xs, ts, rfl, _⟩ := h; rfl
  · obtain ⟨a, xs, ts, rfl, ha, ht, hsz, h⟩ := h
    have hu := hu_of hr
    refine ⟨_, (pss_cons (ps_set (i := 1) sc_unknowns_of.nd rfl (by first | exact .inl rfl | exact .inr rfl) pe_dnewKN)
      (pss_cons (ps_set (i := 2) sc_unknowns_of.nd rfl (by first | exact .inl rfl | exact .inr rfl) (pe_lrev rfl (by rfl) tx.list_ (by rfl) tx.reversed_ (pv 0)))
      (pss_cons (ps_whileN PassesOwn.never (pt_cmpR op_gt (pe_len (by rfl) tx.len_ (pv 2)) pe_int (nomark _)) (pss_cons (ps_set (i := 3) sc_unknowns_of.nd rfl (by first | exact .inl rfl | exact .inr rfl) (pe_pop (pv 2)))
      (pss_cons (ps_if (pt_cmpR op_eq (pe_tc (n := 0) (pv 3)) pe_str (nomark _)) (pss_one (ps_putK hu (pv 1) (pe_tc (n := 1) (pv 3)) pe_bl)) pss_nil)
      (pss_one (ps_if (pt_cmpR op_eq (pe_tc (n := 0) (pv 3)) pe_str (nomark _)) (pss_one (ps_expr (pe_ext (pv 2) (pe_lrev rfl (by rfl) tx.list_ (by rfl) tx.reversed_ (pe_tc (n := 2) (pv 3)))))) pss_nil)))))
      (pss_one (ps_ret (pe_listK rfl (by rfl) tx.list_ (pv 1))))))), ?_⟩
    walk_at "go"
    intro p H1 n1 k1 h1
    walk_at "go"
    intro q H2 n2 k2 h2
    have npq : p ≠ q := fun e => by rw [e] at h1; rw [h1] at n2; cases n2
    have nqp : q ≠ p := Ne.symm npq
    have h0 : Wun a p q H2 (names (occs ts)) (sizes ts.reverse) [some (.ref a), some (.ref p), some (.ref q), none] H2 :=
      ⟨[], _, ts.reverse, none, k2.obj0 h1, h2, (ht.kp (k1.trans k2)).rev, rfl, by rw [List.reverse_reverse]; rfl, by rw [sizes_rev]; simpa using hsz, Kp.refl _ _, rfl⟩
    refine ⟨⟨Wun a p q H2 (names (occs ts)), ⟨_, h0⟩, ?_⟩⟩
    rintro m σ H3 ⟨done, ws, us, o, e1, e2, e3, rfl, e4, e5, k3, rfl⟩
    walk_at "go"
    refine it2 (fun c => ?_) (fun c => ?_)
    · have hne : us.length ≠ 0 := by
        intro z; have hl := e3.len; rw [z] at hl; rw [hl] at c; simp at c
      obtain ⟨us', t, ws', v, rfl, rfl, f1, f2⟩ := e3.last hne
      refine ⟨fun σ' H' => Lp (∃ m', m' < sizes (us' ++ [t]) ∧ Wun a p q H2 (names (occs ts)) m' σ' H'), fun _ _ z => z.ex, ?_⟩
      refine ⟨_, rfl, q, _, v, rfl, e2, by simp, fun H4 k4 h4 => ?_⟩
      rw [List.dropLast_concat] at h4
      have g1 := k4.obj1 e1 npq
      have g2 := f1.kp k4
      have g3 := f2.kp k4
      rw [sizes_append] at e5 ⊢
      rw [List.reverse_append] at e4
      have kk : Kp [p, q] H2 H4 := by walk_at "kp"
      cases t with
      | any x =>
        obtain ⟨b, rfl, hb⟩ := g3
        refine ⟨_, rfl, b, _, _, rfl, hb, rfl, ?_⟩
        walk_at "go"
        refine ⟨?_, fun H5 k5 h5 => ?_⟩
        · simp only [nmk, List.length_map]; omega
        · have hb5 := k5.tup hb
          walk_at "go"
          refine ⟨⟨sizes us', ?_, ad done x, ws', us', _, ?_, k5.obj1 h4 nqp, g2.kp k5, rfl, ?_, ?_, by walk_at "kp", rfl⟩⟩
          · simp only [sizes, T.size]; omega
          · rw [h5, nmk_put]
          · exact e4
          · have := ad_len done x; simp only [sizes, T.size] at e5; omega
      | num x =>
        obtain ⟨b, rfl, hb⟩ := g3
        refine ⟨_, rfl, b, _, _, rfl, hb, rfl, ?_⟩
        walk_at "go"
        refine ⟨⟨sizes us', ?_, done, ws', us', _, g1, h4, g2, rfl, ?_, ?_, by walk_at "kp", rfl⟩⟩
        · simp only [sizes, T.size]; omega
        · exact e4
        · simp only [sizes, T.size] at e5; omega
      | app x ks =>
        obtain ⟨b, b2, vk, rfl, hb, hb2, hk⟩ := g3
        refine ⟨_, rfl, b, _, _, rfl, hb, rfl, ?_⟩
        walk_at "go"
        intro r H5 n5 k5 h5
        have nrq : q ≠ r := fun e => by rw [← e] at n5; rw [n5] at h4; cases h4
        have hq5 := k5.obj0 h4
        have hl1 := hk.len
        have hl2 := f1.len
        have s1 := sizes_len ks
        have s2 := sizes_len us'
        simp only [sizes, T.size] at e5
        refine ⟨r, ws', vk.reverse, rfl, hq5, h5, ?_, fun H6 k6 h6 => ?_⟩
        · rw [List.length_reverse]; omega
        · refine ⟨⟨sizes (us' ++ ks.reverse), ?_, done, _, us' ++ ks.reverse, _, k6.obj1 (k5.obj0 g1) npq, h6, ((g2.kp k5).kp k6).append (((hk.kp k5).kp k6).rev), rfl, ?_, ?_, by walk_at "kp", rfl⟩⟩
          · rw [sizes_append, sizes_rev]; simp only [sizes, T.size]; omega
          · rw [List.reverse_append, List.reverse_reverse, occs_append]
            rw [List.reverse_cons, List.reverse_nil, List.nil_append, occs_append] at e4
            simpa [occs, T.occ] using e4
          · rw [sizes_append, sizes_rev]; omega
    · have hz : us = [] := by
        cases us with
        | nil => rfl
        | cons t r =>
          have hl := e3.len; rw [hl] at c; simp at c
      subst hz
      refine ⟨_, rfl, p, _, rfl, e1, fun r H4 n4 k4 h4 => ?_⟩
      have e4 : done = names (occs ts) := e4
      subst e4
      have n3 : H r = none := by walk_at "nn"
      refine h r H4 ?_ n3 ?_
      · rw [h4, List.map_map]; rfl
      · have kk : Kp [p, q] H2 H4 := by walk_at "kp"
        have k14 : Kp [p] H1 H4 := ((k2.any [p, q]).trans kk).sub fun c hc => by
          rcases List.mem_cons.mp hc with hc | hc
          · exact .inl (by rw [hc]; exact List.mem_cons_self)
          · rw [List.mem_singleton] at hc; rw [hc]; exact .inr n2
        exact ((k1.any [p]).trans k14).one rfl n1
end
end GT
/-! GtP: the maker's methods. -/
namespace GT
open PySem L2 GL PyProof.Rows RT
/-! tactics: a fact of the heap by what was kept; the reading's small steps -/
local macro_rules | `(tactic| walk_at "hp") => `(tactic| first | assumption | (refine Kp.tup (by assumption) ?_; walk_at "hp") | (refine Kp.obj0 (by assumption) ?_; walk_at "hp") | (refine Kp.obj1 (by assumption) ?_ (by first | assumption | (apply Ne.symm; assumption)); walk_at "hp"))
local macro_rules | `(tactic| walk_at "go") => `(tactic| repeat (first | (refine And.intro ?_ ?_; (first | rfl | walk_at "hp" | decide | (refine Or.inl ?_; walk_at "hp") | (refine Or.inr ?_; walk_at "hp") | (refine SqL.of ?_; walk_at "hp") | exact Nat.le_of_ble_eq_true rfl | exact kvS _ | exact kvI _ | exact cmulL rfl | exact cmulR rfl | exact cpw rfl | exact cdv rfl | omega | (dsimp only; first | decide | omega))) | apply Exists.intro))
local macro_rules | `(tactic| walk_at "kp") => `(tactic| first | assumption | exact Kp.refl _ _ | (refine Kp.trans ?_ (Kp.wk (by assumption) (by simp)); walk_at "kp"))
local macro_rules | `(tactic| walk_at "nn") => `(tactic| first | assumption | (refine Kp.fr (by assumption) _ ?_; walk_at "nn"))

/-! ### the maker's state -/
def mf (a b c : Addr) (z : Int) : List (Str × V) := [("slots", .ref a), ("met", .ref b), ("rows", .ref c), ("fresh", .int z)]
theorem mf_sl (a b c : Addr) (z : Int) : (mf a b c z).lookup ("slots" : Str) = some (.ref a) := rfl
theorem mf_me (a b c : Addr) (z : Int) : (mf a b c z).lookup ("met" : Str) = some (.ref b) := rfl
theorem mf_ro (a b c : Addr) (z : Int) : (mf a b c z).lookup ("rows" : Str) = some (.ref c) := rfl
theorem mf_fr (a b c : Addr) (z : Int) : (mf a b c z).lookup ("fresh" : Str) = some (.int z) := rfl
theorem mf_put (a b c : Addr) (z y : Int) : putF "fresh" (.int y) (mf a b c z) = mf a b c y := rfl
def RowAt (H : Hp) (v : V) (r : Row) : Prop := ∃ a, v = .ref a ∧ H a = some (.tup (r.ks.map kV))
def RowsAt (H : Hp) : List V → List Row → Prop
  | [], [] => True
  | v :: vs, r :: rs => RowAt H v r ∧ RowsAt H vs rs
  | _, _ => False
theorem RowAt.kp {S : List Addr} {H H' : Hp} {v : V} {r : Row} (h : RowAt H v r) (k : Kp S H H') : RowAt H' v r := let ⟨a, e, h⟩ := h; ⟨a, e, k.tup h⟩
theorem RowsAt.kp {S : List Addr} {H H' : Hp} (k : Kp S H H') : ∀ {vs : List V} {rs : List Row}, RowsAt H vs rs → RowsAt H' vs rs
  | [], [], _ => trivial
  | v :: vs, r :: rs, ⟨h1, h2⟩ => ⟨h1.kp k, RowsAt.kp k h2⟩
  | [], _ :: _, h => False.elim h
  | _ :: _, [], h => False.elim h
theorem RowsAt.len {H : Hp} : ∀ {vs : List V} {rs : List Row}, RowsAt H vs rs → vs.length = rs.length
  | [], [], _ => rfl
  | v :: vs, r :: rs, ⟨_, h⟩ => by rw [List.length_cons, List.length_cons, RowsAt.len h]
  | [], _ :: _, h => False.elim h
  | _ :: _, [], h => False.elim h
theorem RowsAt.append {H : Hp} : ∀ {vs : List V} {rs : List Row} {us : List V} {qs : List Row}, RowsAt H vs rs → RowsAt H us qs → RowsAt H (vs ++ us) (rs ++ qs)
  | [], [], _, _, _, h => h
  | v :: vs, r :: rs, _, _, ⟨h1, h2⟩, h => ⟨h1, RowsAt.append h2 h⟩
  | [], _ :: _, _, _, h, _ => False.elim h
  | _ :: _, [], _, _, h, _ => False.elim h
theorem RowsAt.get {H : Hp} : ∀ {vs : List V} {rs : List Row} {i : Nat} {r : Row}, RowsAt H vs rs → rs[i]? = some r → ∃ v, vs[i]? = some v ∧ RowAt H v r
  | v :: vs, r :: rs, 0, _, ⟨h, _⟩, e => by cases e; exact ⟨v, rfl, h⟩
  | v :: vs, r :: rs, i + 1, u, ⟨_, h⟩, e => by
    obtain ⟨t', h1, h2⟩ := RowsAt.get (i := i) (r := u) h (by simpa using e)
    exact ⟨t', by simpa using h1, h2⟩
  | [], [], _, _, _, e => by simp at e
  | [], _ :: _, _, _, h, _ => False.elim h
  | _ :: _, [], _, _, h, _ => False.elim h
structure MkAt (C : Addr) (H : Hp) (sf asl amet aro : Addr) (ns : List Str) (M : Nat → Prop) (rs : List Row) (fr : Nat) : Prop where
  ob : ∃ dx, H sf = some (.ins C dx (mf asl amet aro fr))
  sl : H asl = some (.dK (slk ns))
  me : ∃ ms : List Nat, H amet = some (.dK (mtk ms)) ∧ (∀ s, s ∈ ms ↔ M s) ∧ ms.length ≤ rs.length
  ro : ∃ vs, H aro = some (.lst vs) ∧ RowsAt H vs rs
  ne : asl ≠ amet
section
variable {C : Addr} {H H' H1 : Hp} {self asl amet aro p : Addr} {ns : List Str} {M M' : Nat → Prop} {rs : List Row} {fr : Nat}
theorem MkAt.keep (m : MkAt C H self asl amet aro ns M rs fr) (k : Kp [] H H') : MkAt C H' self asl amet aro ns M rs fr := by
  obtain ⟨⟨dx, ob⟩, sl, ⟨ms, me, hm⟩, ⟨vs, ro, hv⟩, ne⟩ := m
  exact ⟨⟨dx, k.obj0 ob⟩, k.obj0 sl, ⟨ms, k.obj0 me, hm⟩, ⟨vs, k.obj0 ro, hv.kp k⟩, ne⟩
theorem MkAt.nSR (m : MkAt C H self asl amet aro ns M rs fr) : self ≠ aro := by
  obtain ⟨⟨dx, ob⟩, sl, ⟨ms, me, hm⟩, ⟨vs, ro, hv⟩, ne⟩ := m
  rintro rfl; rw [ob] at ro; cases ro
theorem MkAt.nSM (m : MkAt C H self asl amet aro ns M rs fr) : self ≠ amet := by
  obtain ⟨⟨dx, ob⟩, sl, ⟨ms, me, hm⟩, ⟨vs, ro, hv⟩, ne⟩ := m
  rintro rfl; rw [ob] at me; cases me
theorem MkAt.nSL (m : MkAt C H self asl amet aro ns M rs fr) : self ≠ asl := by
  obtain ⟨⟨dx, ob⟩, sl, ⟨ms, me, hm⟩, ⟨vs, ro, hv⟩, ne⟩ := m
  rintro rfl; rw [ob] at sl; cases sl
theorem MkAt.nRM (m : MkAt C H self asl amet aro ns M rs fr) : aro ≠ amet := by
  obtain ⟨⟨dx, ob⟩, sl, ⟨ms, me, hm⟩, ⟨vs, ro, hv⟩, ne⟩ := m
  rintro rfl; rw [ro] at me; cases me
theorem MkAt.nRL (m : MkAt C H self asl amet aro ns M rs fr) : aro ≠ asl := by
  obtain ⟨⟨dx, ob⟩, sl, ⟨ms, me, hm⟩, ⟨vs, ro, hv⟩, ne⟩ := m
  rintro rfl; rw [ro] at sl; cases sl
/-- a row more -/
theorem MkAt.app (m : MkAt C H self asl amet aro ns M rs fr) {r : Row} {vs : List V} (e : H aro = some (.lst vs)) (hp : H p = some (.tup (r.ks.map kV))) (k : Kp [aro] H H') (h : H' aro = some (.lst (vs ++ [.ref p]))) : MkAt C H' self asl amet aro ns M (rs ++ [r]) fr := by
  have n1 := m.nSR; have n2 := m.nRM; have n3 := m.nRL
  obtain ⟨⟨dx, ob⟩, sl, ⟨ms, me, hm, hl⟩, ⟨vs', ro, hv⟩, ne⟩ := m
  have e' : vs' = vs := by rw [e] at ro; injection ro with ro; injection ro with ro; exact ro.symm
  subst e'
  exact ⟨⟨dx, k.obj1 ob n1⟩, k.obj1 sl (Ne.symm n3), ⟨ms, k.obj1 me (Ne.symm n2), hm, by rw [List.length_append]; omega⟩, ⟨_, h, (hv.kp k).append ⟨⟨p, rfl, k.tup hp⟩, trivial⟩⟩, ne⟩
/-- new cells -/
theorem MkAt.cells (m : MkAt C H self asl amet aro ns M rs fr) {fr' : Nat} {dx : Addr} (k : Kp [self] H H') (h : H' self = some (.ins C dx (mf asl amet aro fr'))) : MkAt C H' self asl amet aro ns M rs fr' := by
  have n1 := m.nSR; have n2 := m.nSM; have n3 := m.nSL
  obtain ⟨⟨dx', ob⟩, sl, ⟨ms, me, hm⟩, ⟨vs, ro, hv⟩, ne⟩ := m
  exact ⟨⟨dx, h⟩, k.obj1 sl (Ne.symm n3), ⟨ms, k.obj1 me (Ne.symm n2), hm⟩, ⟨vs, k.obj1 ro (Ne.symm n1), hv.kp k⟩, ne⟩
end
section
variable {P : Program} {w : World} {K : PySem.W.Frag} {mg : Str → Option Value} {base : Heap} {C d : Addr} {es : Array DictEntry} {n : Nat} {k : Nat}
abbrev s_Mcells_for : Stmt := (inClass (topS 8) 1)
abbrev N_Mcells_for : List Str := ["self", "many", "first"]
theorem sc_Mcells_for : FnScope N_Mcells_for ["self", "many"] (defScope s_Mcells_for) := ⟨rfl, rfl, rfl, by decide +kernel, rfl, by decide +kernel, by decide +kernel⟩

def spCells (C : Addr) : Sp := fun vs H Q _ => ∃ (self asl amet aro : Addr) (ns : List Str) (M : Nat → Prop) (rs : List Row) (fr m : Nat), vs = [.ref self, .int m] ∧ MkAt C H self asl amet aro ns M rs fr ∧
  ∀ H', MkAt C H' self asl amet aro ns M rs (fr + m) → Kp [self] H H' → Q (.int fr) H'
theorem ok_cells_for (tx : Txt K w mg C d es n) (D : MAt K C "cells_for" "Maker.cells_for" s_Mcells_for ["self", "many"]) : MDef P w K mg base C "cells_for" (k + 1) ["self", "many"] (spCells C) := by
  refine D.ok sc_Mcells_for (fun vs H Q E h => ?_) (fun f cdv A outer s H vs Q E hr h => ?_)
  · obtain ⟨self, asl, amet, aro, ns, M, rs, fr, m, rfl, _⟩ := h; rfl
  · obtain ⟨self, asl, amet, aro, ns, M, rs, fr, m, rfl, hm, h⟩ := h
    have hu := hu_of hr
    have c1 := tx.cl; have c2 := tx.nSl; have c3 := tx.nMe; have c4 := tx.nRo; have c5 := tx.nFr
    obtain ⟨dx, ob⟩ := hm.ob
    refine ⟨_, (pss_cons (ps_set (i := 2) sc_Mcells_for.nd rfl (by first | exact .inl rfl | exact .inr rfl) (pe_fld (pv 0) rfl))
      (pss_cons (ps_fldN (pv 0) (pe_op op_add (pe_fld (pv 0) rfl) (pv 1)))
      (pss_one (ps_ret (pv 2))))), ?_⟩
    walk_at "go"
    intro H2 k2 h2
    exact ⟨_, rfl, h H2 (hm.cells k2 h2) k2⟩
abbrev s_Mtake : Stmt := (inClass (topS 8) 2)
abbrev N_Mtake : List Str := ["self", "cell", "term", "slot", "word", "first", "place", "kid"]
theorem sc_Mtake : FnScope N_Mtake ["self", "cell", "term"] (defScope s_Mtake) := ⟨rfl, rfl, rfl, by decide +kernel, rfl, by decide +kernel, by decide +kernel⟩

def spTake (C : Addr) (j : Nat) : Sp := fun vs H Q _ => ∃ (self asl amet aro : Addr) (ns : List Str) (M : Nat → Prop) (rs : List Row) (fr c : Nat) (v : V) (t : GT.T), vs = [.ref self, .int c, v] ∧ MkAt C H self asl amet aro ns M rs fr ∧ TA .str H v t ∧ t.size ≤ j ∧ (∀ x ∈ t.occ, x ∈ ns) ∧ rs.length + t.size ≤ 1000 ∧
  ∀ H' rs' M', MkAt C H' self asl amet aro ns M' (rs ++ rs') (fr + t.cells) → (∀ s, M' s ↔ M s ∨ ∃ x ∈ t.occ, sl ns x = s) → Take (sl ns) c t fr rs' → Kp [self, amet, aro] H H' → Q .non H'
theorem step_take (tx : Txt K w mg C d es n) {j : Nat} (m_cells_for : MDef P w K mg base C "cells_for" k ["self", "many"] (spCells C)) (m_take : MDef P w K mg base C "take" k ["self", "cell", "term"] (spTake C j)) (D : MAt K C "take" "Maker.take" s_Mtake ["self", "cell", "term"]) : MDef P w K mg base C "take" (k + 1) ["self", "cell", "term"] (spTake C (j + 1)) := by
  refine D.ok sc_Mtake (fun vs H Q E h => ?_) (fun f cdv A outer s H vs Q E hr h => ?_)
  · obtain ⟨self, asl, amet, aro, ns, M, rs, fr, c, v, t, rfl, _⟩ := h; rfl
  · obtain ⟨self, asl, amet, aro, ns, M, rs, fr, c, v, t, rfl, hm, ht, hj, hx, hb, h⟩ := h
    have hu := hu_of hr
    have c1 := tx.cl; have c2 := tx.nSl; have c3 := tx.nMe; have c4 := tx.nRo; have c5 := tx.nFr
    obtain ⟨dx, ob⟩ := hm.ob
    obtain ⟨xs, hro, hrv⟩ := hm.ro
    have hlen := hrv.len
    have hlen2 : xs.length ≤ 100000 := by omega
    refine ⟨_, (pss_one (ps_if (pt_cmpR op_eq (pe_tc (n := 0) (pv 2)) pe_str (nomark _)) (pss_one (ps_expr (pe_app (pe_fld (pv 0) rfl) (pe_tupN (pa_cons pe_str (pa_cons (pv 1) (pa_cons (pe_tc (n := 1) (pv 2)) pa_nil))))))) (pss_one (ps_if (pt_cmpR op_eq (pe_tc (n := 0) (pv 2)) pe_str (nomark _)) (pss_cons (ps_set (i := 3) sc_Mtake.nd rfl (by first | exact .inl rfl | exact .inr rfl) (pe_dget hu (pe_fld (pv 0) rfl) (pe_tc (n := 1) (pv 2)) (fun _ _ => rfl)))
      (pss_cons (ps_set (i := 4) sc_Mtake.nd rfl (by first | exact .inl rfl | exact .inr rfl) pe_str)
      (pss_cons (ps_if (pt_cmp (pc_din hu (pv 3) (pe_fld (pv 0) rfl)) (by rfl)) (pss_one (ps_set (i := 4) sc_Mtake.nd rfl (by first | exact .inl rfl | exact .inr rfl) pe_str)) pss_nil)
      (pss_cons (ps_putK hu (pe_fld (pv 0) rfl) (pv 3) pe_bl)
      (pss_one (ps_expr (pe_app (pe_fld (pv 0) rfl) (pe_tupN (pa_cons (pv 4) (pa_cons (pv 1) (pa_cons (pv 3) pa_nil))))))))))) (pss_cons (ps_set (i := 5) sc_Mtake.nd rfl (by first | exact .inl rfl | exact .inr rfl) (pe_mt m_cells_for tx.cl (pv 0) (hr.mono (by omega)) (pa_cons (pe_len (by rfl) tx.len_ (pe_tc (n := 2) (pv 2))) pa_nil)))
      (pss_cons (ps_expr (pe_app (pe_fld (pv 0) rfl) (pe_tupN (pa_cons pe_str (pa_cons (pv 1) (pa_cons (pe_tc (n := 1) (pv 2)) (pa_cons (pe_len (by rfl) tx.len_ (pe_tc (n := 2) (pv 2))) (pa_cons (pv 5) pa_nil))))))))
      (pss_one (ps_forET PassesOwn.never rfl (by rfl) tx.enumerate_ (pe_tc (n := 2) (pv 2)) (pg_name (i := 6) sc_Mtake.nd rfl (by first | exact .inl rfl | exact .inr rfl)) (pg_name (i := 7) sc_Mtake.nd rfl (by first | exact .inl rfl | exact .inr rfl)) (pss_one (ps_expr (pe_mt m_take tx.cl (pv 0) (hr.mono (by omega)) (pa_cons (pe_op op_add (pv 5) (pv 6)) (pa_cons (pv 7) pa_nil))))))))))))), ?_⟩
    cases t with
    | num i =>
      obtain ⟨a, rfl, ha⟩ := ht
      walk_at "go"
      intro p H1 n1 k1 h1
      walk_at "go"
      intro H2 k2 h2
      exact h H2 [.num c i] M ((hm.keep k1).app (r := .num c i) (k1.obj0 hro) h1 k2 h2) (fun s => by simp [GT.T.occ]) rfl (by walk_at "kp")
    | any x =>
      obtain ⟨a, rfl, ha⟩ := ht
      obtain ⟨ms, hme, hmm, hml⟩ := hm.me
      have hin := hx x (by simp [GT.T.occ])
      have n2 := hm.nRM; have n3 := hm.nSM
      have hml2 : (mtk ms).length ≤ 100000 := by simp only [mtk, List.length_map]; omega
      walk_at "go"
      refine ⟨dgS hm.sl (slk_get hin), ?_⟩
      walk_at "go"
      refine ⟨dgI hme (mtk_get ms _), ?_⟩
      walk_at "go"
      have fin : ∀ (w : Bool) (p : Addr) (H1 H2 H3 : Hp), Kp [amet] H H1 → H1 amet = some (.dK (mtk (if sl ns x ∈ ms then ms else ms ++ [sl ns x]))) → Kp [] H1 H2 → H2 p = some (.tup ((Row.slot w c (sl ns x)).ks.map kV)) → Kp [aro] H2 H3 → H3 aro = some (.lst (xs ++ [.ref p])) → Q .non H3 := by
        intro w p H1 H2 H3 k1 h1 k2 h2 k3 h3
        refine h H3 [.slot w c (sl ns x)] (fun s => M s ∨ ∃ y ∈ (GT.T.any x).occ, sl ns y = s) ⟨⟨dx, k3.obj1 (k2.obj0 (k1.obj1 ob n3)) hm.nSR⟩, k3.obj1 (k2.obj0 (k1.obj1 hm.sl hm.ne)) (Ne.symm hm.nRL), ⟨_, k3.obj1 (k2.obj0 h1) (Ne.symm n2), fun s => ?_, ?_⟩, ⟨_, h3, (hrv.kp (S := [self, amet, aro]) (by walk_at "kp")).append ⟨⟨p, rfl, k3.tup h2⟩, trivial⟩⟩, hm.ne⟩ (fun s => Iff.rfl) ⟨w, rfl⟩ (by walk_at "kp")
        · have e : (∃ y ∈ (GT.T.any x).occ, sl ns y = s) ↔ s = sl ns x := by simp [GT.T.occ, eq_comm]
          rw [e, ← hmm s]
          split
          · rename_i hs
            constructor
            · exact .inl
            · rintro (z | rfl)
              · exact z
              · exact hs
          · simp
        · rw [List.length_append, List.length_singleton]
          split
          · omega
          · rw [List.length_append, List.length_singleton]; omega
      refine it2 (fun _ => ?_) (fun _ => ?_)
      · walk_at "go"
        intro H1 k1 h1
        rw [mtk_put] at h1
        walk_at "go"
        intro p H2 np k2 h2
        walk_at "go"
        intro H3 k3 h3
        exact fin true p H1 H2 H3 k1 h1 k2 h2 k3 h3
      · walk_at "go"
        intro H1 k1 h1
        rw [mtk_put] at h1
        walk_at "go"
        intro p H2 np k2 h2
        walk_at "go"
        intro H3 k3 h3
        exact fin false p H1 H2 H3 k1 h1 k2 h2 k3 h3
    | app x ks =>
      obtain ⟨a, b, vk, rfl, ha, hb2, hk⟩ := ht
      have hkl := hk.len
      walk_at "go"
      intro H1 m1 k1
      obtain ⟨dx1, ob1⟩ := m1.ob
      obtain ⟨xs1, hro1, hrv1⟩ := m1.ro
      have hlen1 := hrv1.len
      have hlen3 : xs1.length ≤ 100000 := by omega
      rw [hkl] at m1
      have ha1 := k1.tup ha
      have hb1 := k1.tup hb2
      walk_at "go"
      intro p H2 n2 k2 h2
      walk_at "go"
      intro H3 k3 h3
      have h2' : H2 p = some (.tup ((Row.app c x ks.length fr).ks.map kV)) := by
        rw [h2, hkl]; rfl
      have m3 := (m1.keep k2).app (r := .app c x ks.length fr) (k2.obj0 hro1) h2' k3 h3
      have hb3 : H3 b = some (.tup vk) := by walk_at "hp"
      have ha3 := k3.tup (k2.tup ha1)
      have kk3 : Kp [self, amet, aro] H H3 := by walk_at "kp"
      simp only [GT.T.size] at hj hb
      walk_at "go"
      refine ⟨⟨fun q σ H' => ∃ r' M' o4 o6 o7, MkAt C H' self asl amet aro ns M' (rs ++ [.app c x ks.length fr] ++ r') (fr + ks.length + cellss (ks.take q)) ∧ (∀ s, M' s ↔ M s ∨ ∃ x ∈ occs (ks.take q), sl ns x = s) ∧
        Takes (sl ns) fr (ks.take q) (fr + ks.length) r' ∧ Kp [self, amet, aro] H3 H' ∧ σ = [some (.ref self), some (.int c), some (.ref a), none, o4, some (.int fr), o6, o7],
        ⟨[], M, _, _, _, by simpa [cellss] using m3, fun s => by simp [occs], rfl, Kp.refl _ _, rfl⟩, ?_, ?_, ?_⟩⟩
      · rintro q σ H' ⟨r', M', o4, o6, o7, e1, e2, e3, e4, rfl⟩
        exact e4.tup hb3
      · rintro q y σ H4 H5 hy ⟨r', M', o4, o6, o7, e1, e2, e3, e4, rfl⟩ k5
        have kk5 : Kp [self, amet, aro] H H5 := (kk3.trans e4).trans (k5.any _)
        obtain ⟨t, ht1, ht2⟩ := hk.get hy
        have hmem := List.mem_of_getElem? ht1
        have hq : q < ks.length := (List.getElem?_eq_some_iff.mp ht1).1
        have hs1 := sizes_mem hmem
        have e1' := e1.keep k5
        obtain ⟨dx5, ob5⟩ := e1'.ob
        have e3l := e3.len
        have htk : ks.take (q + 1) = ks.take q ++ [t] := by rw [List.take_add_one, ht1]; rfl
        have hsz : sizes (ks.take q) + t.size ≤ sizes ks := by
          have e0 : ks = ks.take (q + 1) ++ ks.drop (q + 1) := (List.take_append_drop _ _).symm
          have e9 : sizes ks = sizes (ks.take (q + 1)) + sizes (ks.drop (q + 1)) := by rw [← sizes_append, ← e0]
          rw [htk, sizes_append] at e9
          simp only [sizes] at e9; omega
        refine ⟨_, rfl, self, _, _, rfl, ob5, rfl, _, rfl, _, rfl, fr, q, rfl, rfl, _, rfl, self, asl, amet, aro, ns, M', _, _, fr + q, y, t, rfl, e1', ht2.kp kk5, by omega, fun z hz => hx z ?_, ?_, fun H6 r6 M6 m6 w6 t6 k6 => ?_⟩
        · simp only [GT.T.occ]
          have e0 : ks = ks.take (q + 1) ++ ks.drop (q + 1) := (List.take_append_drop _ _).symm
          rw [e0, htk, occs_append, occs_append]
          simp [occs, hz]
        · simp only [List.length_append, List.length_singleton]; omega
        · refine ⟨r' ++ r6, M6, _, _, _, ?_, fun s => ?_, ?_, (e4.trans (k5.any _)).trans k6, rfl⟩
          · rw [htk, cellss_append, ← List.append_assoc]
            simp only [cellss, Nat.add_zero]
            rw [← Nat.add_assoc]; exact m6
          · rw [w6, e2, htk, occs_append]
            simp only [occs, List.append_nil, List.mem_append]
            constructor
            · rintro ((z | ⟨x, z1, z2⟩) | ⟨x, z1, z2⟩)
              · exact .inl z
              · exact .inr ⟨x, .inl z1, z2⟩
              · exact .inr ⟨x, .inr z1, z2⟩
            · rintro (z | ⟨x, z1 | z1, z2⟩)
              · exact .inl (.inl z)
              · exact .inl (.inr ⟨x, z1, z2⟩)
              · exact .inr ⟨x, z1, z2⟩
          · rw [htk]
            refine Takes.snoc _ _ _ _ _ _ _ e3 ?_
            rw [List.length_take, Nat.min_eq_left (by omega)]
            exact t6
      · rintro σ H4 ⟨r', M', o4, o6, o7, e1, e2, e3, e4, rfl⟩
        rw [hkl, List.take_length] at e1 e2 e3
        refine h H4 (.app c x ks.length fr :: r') M' ?_ e2 ⟨r', rfl, e3⟩ (kk3.trans e4)
        simpa [GT.T.cells, Nat.add_assoc] using e1
end
end GT
/-! GtQ: the maker's methods, part 2. -/
namespace GT
open PySem L2 GL PyProof.Rows RT
/-! tactics: a fact of the heap by what was kept; the reading's small steps -/
local macro_rules | `(tactic| walk_at "hp") => `(tactic| first | assumption | (refine Kp.tup (by assumption) ?_; walk_at "hp") | (refine Kp.obj0 (by assumption) ?_; walk_at "hp") | (refine Kp.obj1 (by assumption) ?_ (by first | assumption | (apply Ne.symm; assumption)); walk_at "hp"))
local macro_rules | `(tactic| walk_at "go") => `(tactic| repeat (first | (refine And.intro ?_ ?_; (first | rfl | walk_at "hp" | decide | (refine Or.inl ?_; walk_at "hp") | (refine Or.inr ?_; walk_at "hp") | (refine SqL.of ?_; walk_at "hp") | exact Nat.le_of_ble_eq_true rfl | exact kvS _ | exact kvI _ | exact cmulL rfl | exact cmulR rfl | exact cpw rfl | exact cdv rfl | omega | (dsimp only; first | decide | omega))) | apply Exists.intro))
local macro_rules | `(tactic| walk_at "kp") => `(tactic| first | assumption | exact Kp.refl _ _ | (refine Kp.trans ?_ (Kp.wk (by assumption) (by simp)); walk_at "kp"))
local macro_rules | `(tactic| walk_at "nn") => `(tactic| first | assumption | (refine Kp.fr (by assumption) _ ?_; walk_at "nn"))

theorem take_succ {ks : List GT.T} {q : Nat} {t : GT.T} (h : ks[q]? = some t) : ks.take (q + 1) = ks.take q ++ [t] := by rw [List.take_add_one, h]; rfl
theorem sizes_take {ks : List GT.T} {q : Nat} {t : GT.T} (h : ks[q]? = some t) : sizes (ks.take q) + t.size ≤ sizes ks := by
  have e0 : ks = ks.take (q + 1) ++ ks.drop (q + 1) := (List.take_append_drop _ _).symm
  have e9 : sizes ks = sizes (ks.take (q + 1)) + sizes (ks.drop (q + 1)) := by rw [← sizes_append, ← e0]
  rw [take_succ h, sizes_append] at e9
  simp only [sizes] at e9; omega
theorem occ_take {ks : List GT.T} {q : Nat} {t : GT.T} {x : Str} (h : ks[q]? = some t) (hx : x ∈ t.occ) : x ∈ occs ks := by
  have e0 : ks = ks.take (q + 1) ++ ks.drop (q + 1) := (List.take_append_drop _ _).symm
  rw [e0, take_succ h, occs_append, occs_append]
  simp [occs, hx]
section
variable {P : Program} {w : World} {K : PySem.W.Frag} {mg : Str → Option Value} {base : Heap} {C d : Addr} {es : Array DictEntry} {n : Nat} {k : Nat}
abbrev s_Mhead : Stmt := (inClass (topS 8) 3)
abbrev N_Mhead : List Str := ["self", "term", "first", "place", "kid"]
theorem sc_Mhead : FnScope N_Mhead ["self", "term"] (defScope s_Mhead) := ⟨rfl, rfl, rfl, by decide +kernel, rfl, by decide +kernel, by decide +kernel⟩

def spHead (C : Addr) (j : Nat) : Sp := fun vs H Q _ => ∃ (self asl amet aro : Addr) (ns : List Str) (M : Nat → Prop) (rs : List Row) (fr : Nat) (v : V) (x : Str) (ks : List GT.T), vs = [.ref self, v] ∧ MkAt C H self asl amet aro ns M rs fr ∧ TA .str H v (.app x ks) ∧ sizes ks ≤ j ∧ (∀ x ∈ occs ks, x ∈ ns) ∧ rs.length + sizes ks ≤ 1000 ∧
  ∀ H' rs' M', MkAt C H' self asl amet aro ns M' (rs ++ rs') (fr + ks.length + cellss ks) → (∀ s, M' s ↔ M s ∨ ∃ x ∈ occs ks, sl ns x = s) → Takes (sl ns) fr ks (fr + ks.length) rs' → Kp [self, amet, aro] H H' → Q .non H'
theorem ok_head (tx : Txt K w mg C d es n) {j : Nat} (m_cells_for : MDef P w K mg base C "cells_for" k ["self", "many"] (spCells C)) (m_take : MDef P w K mg base C "take" k ["self", "cell", "term"] (spTake C j)) (D : MAt K C "head" "Maker.head" s_Mhead ["self", "term"]) : MDef P w K mg base C "head" (k + 1) ["self", "term"] (spHead C j) := by
  refine D.ok sc_Mhead (fun vs H Q E h => ?_) (fun f cdv A outer s H vs Q E hr h => ?_)
  · obtain ⟨self, asl, amet, aro, ns, M, rs, fr, v, x, ks, rfl, _⟩ := h; rfl
  · obtain ⟨self, asl, amet, aro, ns, M, rs, fr, v, x, ks, rfl, hm, ht, hj, hx, hb, h⟩ := h
    have hu := hu_of hr
    have c1 := tx.cl; have c2 := tx.nSl; have c3 := tx.nMe; have c4 := tx.nRo; have c5 := tx.nFr
    obtain ⟨dx, ob⟩ := hm.ob
    obtain ⟨a, b, vk, rfl, ha, hb2, hk⟩ := ht
    have hkl := hk.len
    refine ⟨_, (pss_cons (ps_set (i := 2) sc_Mhead.nd rfl (by first | exact .inl rfl | exact .inr rfl) (pe_mt m_cells_for tx.cl (pv 0) (hr.mono (by omega)) (pa_cons (pe_len (by rfl) tx.len_ (pe_tc (n := 2) (pv 1))) pa_nil)))
      (pss_one (ps_forET PassesOwn.never rfl (by rfl) tx.enumerate_ (pe_tc (n := 2) (pv 1)) (pg_name (i := 3) sc_Mhead.nd rfl (by first | exact .inl rfl | exact .inr rfl)) (pg_name (i := 4) sc_Mhead.nd rfl (by first | exact .inl rfl | exact .inr rfl)) (pss_one (ps_expr (pe_mt m_take tx.cl (pv 0) (hr.mono (by omega)) (pa_cons (pe_op op_add (pv 2) (pv 3)) (pa_cons (pv 4) pa_nil)))))))), ?_⟩
    walk_at "go"
    intro H1 m1 k1
    rw [hkl] at m1
    have ha1 := k1.tup ha
    have hb1 := k1.tup hb2
    walk_at "go"
    refine ⟨⟨fun q σ H' => ∃ r' M' o4 o6, MkAt C H' self asl amet aro ns M' (rs ++ r') (fr + ks.length + cellss (ks.take q)) ∧ (∀ s, M' s ↔ M s ∨ ∃ x ∈ occs (ks.take q), sl ns x = s) ∧
      Takes (sl ns) fr (ks.take q) (fr + ks.length) r' ∧ Kp [self, amet, aro] H H' ∧ σ = [some (.ref self), some (.ref a), some (.int fr), o4, o6],
      ⟨[], M, _, _, by simpa [cellss] using m1, fun s => by simp [occs], rfl, by walk_at "kp", rfl⟩, ?_, ?_, ?_⟩⟩
    · rintro q σ H' ⟨r', M', o4, o6, e1, e2, e3, e4, rfl⟩
      exact e4.tup hb2
    · rintro q y σ H4 H5 hy ⟨r', M', o4, o6, e1, e2, e3, e4, rfl⟩ k5
      have kk5 : Kp [self, amet, aro] H H5 := e4.trans (k5.any _)
      obtain ⟨t, ht1, ht2⟩ := hk.get hy
      have hmem := List.mem_of_getElem? ht1
      have hq : q < ks.length := (List.getElem?_eq_some_iff.mp ht1).1
      have hs1 := sizes_mem hmem
      have e1' := e1.keep k5
      obtain ⟨dx5, ob5⟩ := e1'.ob
      have e3l := e3.len
      have hsz := sizes_take ht1
      refine ⟨_, rfl, self, _, _, rfl, ob5, rfl, _, rfl, _, rfl, fr, q, rfl, rfl, _, rfl, self, asl, amet, aro, ns, M', _, _, fr + q, y, t, rfl, e1', ht2.kp kk5, by omega, fun z hz => hx z (occ_take ht1 hz), ?_, fun H6 r6 M6 m6 w6 t6 k6 => ?_⟩
      · simp only [List.length_append]; omega
      · refine ⟨r' ++ r6, M6, _, _, ?_, fun s => ?_, ?_, kk5.trans k6, rfl⟩
        · rw [take_succ ht1, cellss_append, ← List.append_assoc]
          simp only [cellss, Nat.add_zero]
          rw [← Nat.add_assoc]; exact m6
        · rw [w6, e2, take_succ ht1, occs_append]
          simp only [occs, List.append_nil, List.mem_append]
          constructor
          · rintro ((z | ⟨x, z1, z2⟩) | ⟨x, z1, z2⟩)
            · exact .inl z
            · exact .inr ⟨x, .inl z1, z2⟩
            · exact .inr ⟨x, .inr z1, z2⟩
          · rintro (z | ⟨x, z1 | z1, z2⟩)
            · exact .inl (.inl z)
            · exact .inl (.inr ⟨x, z1, z2⟩)
            · exact .inr ⟨x, z1, z2⟩
        · rw [take_succ ht1]
          refine Takes.snoc _ _ _ _ _ _ _ e3 ?_
          rw [List.length_take, Nat.min_eq_left (by omega)]
          exact t6
    · rintro σ H4 ⟨r', M', o4, o6, e1, e2, e3, e4, rfl⟩
      rw [hkl, List.take_length] at e1 e2 e3
      exact h H4 r' M' e1 e2 e3 e4
abbrev s_Mbring : Stmt := (inClass (topS 8) 5)
abbrev N_Mbring : List Str := ["self", "cell", "term", "first", "place", "kid"]
theorem sc_Mbring : FnScope N_Mbring ["self", "cell", "term"] (defScope s_Mbring) := ⟨rfl, rfl, rfl, by decide +kernel, rfl, by decide +kernel, by decide +kernel⟩

def spBring (C : Addr) (j : Nat) : Sp := fun vs H Q _ => ∃ (self asl amet aro : Addr) (ns : List Str) (M : Nat → Prop) (rs : List Row) (fr c : Nat) (v : V) (t : GT.T), vs = [.ref self, .int c, v] ∧ MkAt C H self asl amet aro ns M rs fr ∧ TA .str H v t ∧ t.size ≤ j ∧ (∀ x ∈ t.occ, x ∈ ns) ∧ rs.length + t.size ≤ 1000 ∧
  ∀ H', MkAt C H' self asl amet aro ns M (rs ++ bring (sl ns) c t fr) (fr + t.cells) → Kp [self, amet, aro] H H' → Q .non H'
theorem step_bring (tx : Txt K w mg C d es n) {j : Nat} (m_cells_for : MDef P w K mg base C "cells_for" k ["self", "many"] (spCells C)) (m_bring : MDef P w K mg base C "bring" k ["self", "cell", "term"] (spBring C j)) (D : MAt K C "bring" "Maker.bring" s_Mbring ["self", "cell", "term"]) : MDef P w K mg base C "bring" (k + 1) ["self", "cell", "term"] (spBring C (j + 1)) := by
  refine D.ok sc_Mbring (fun vs H Q E h => ?_) (fun f cdv A outer s H vs Q E hr h => ?_)
  · obtain ⟨self, asl, amet, aro, ns, M, rs, fr, c, v, t, rfl, _⟩ := h; rfl
  · obtain ⟨self, asl, amet, aro, ns, M, rs, fr, c, v, t, rfl, hm, ht, hj, hx, hb, h⟩ := h
    have hu := hu_of hr
    have c1 := tx.cl; have c2 := tx.nSl; have c3 := tx.nMe; have c4 := tx.nRo; have c5 := tx.nFr
    obtain ⟨dx, ob⟩ := hm.ob
    obtain ⟨xs, hro, hrv⟩ := hm.ro
    have hlen := hrv.len
    have hlen2 : xs.length ≤ 100000 := by omega
    refine ⟨_, (pss_one (ps_if (pt_cmpR op_eq (pe_tc (n := 0) (pv 2)) pe_str (nomark _)) (pss_one (ps_expr (pe_app (pe_fld (pv 0) rfl) (pe_tupN (pa_cons pe_str (pa_cons (pv 1) (pa_cons (pe_tc (n := 1) (pv 2)) pa_nil))))))) (pss_one (ps_if (pt_cmpR op_eq (pe_tc (n := 0) (pv 2)) pe_str (nomark _)) (pss_one (ps_expr (pe_app (pe_fld (pv 0) rfl) (pe_tupN (pa_cons pe_str (pa_cons (pv 1) (pa_cons (pe_dget hu (pe_fld (pv 0) rfl) (pe_tc (n := 1) (pv 2)) (fun _ _ => rfl)) pa_nil))))))) (pss_cons (ps_set (i := 3) sc_Mbring.nd rfl (by first | exact .inl rfl | exact .inr rfl) (pe_mt m_cells_for tx.cl (pv 0) (hr.mono (by omega)) (pa_cons (pe_len (by rfl) tx.len_ (pe_tc (n := 2) (pv 2))) pa_nil)))
      (pss_cons (ps_forET PassesOwn.never rfl (by rfl) tx.enumerate_ (pe_tc (n := 2) (pv 2)) (pg_name (i := 4) sc_Mbring.nd rfl (by first | exact .inl rfl | exact .inr rfl)) (pg_name (i := 5) sc_Mbring.nd rfl (by first | exact .inl rfl | exact .inr rfl)) (pss_one (ps_expr (pe_mt m_bring tx.cl (pv 0) (hr.mono (by omega)) (pa_cons (pe_op op_add (pv 3) (pv 4)) (pa_cons (pv 5) pa_nil))))))
      (pss_one (ps_expr (pe_app (pe_fld (pv 0) rfl) (pe_tupN (pa_cons pe_str (pa_cons (pv 1) (pa_cons (pe_tc (n := 1) (pv 2)) (pa_cons (pe_len (by rfl) tx.len_ (pe_tc (n := 2) (pv 2))) (pa_cons (pv 3) pa_nil))))))))))))))), ?_⟩
    cases t with
    | num i =>
      obtain ⟨a, rfl, ha⟩ := ht
      walk_at "go"
      intro p H1 n1 k1 h1
      walk_at "go"
      intro H2 k2 h2
      exact h H2 ((hm.keep k1).app (r := .putnum c i) (k1.obj0 hro) h1 k2 h2) (by walk_at "kp")
    | any x =>
      obtain ⟨a, rfl, ha⟩ := ht
      have hin := hx x (by simp [GT.T.occ])
      walk_at "go"
      refine ⟨dgS hm.sl (slk_get hin), ?_⟩
      walk_at "go"
      intro p H1 n1 k1 h1
      walk_at "go"
      intro H2 k2 h2
      exact h H2 ((hm.keep k1).app (r := .put c (sl ns x)) (k1.obj0 hro) h1 k2 h2) (by walk_at "kp")
    | app x ks =>
      obtain ⟨a, b, vk, rfl, ha, hb2, hk⟩ := ht
      have hkl := hk.len
      walk_at "go"
      intro H1 m1 k1
      rw [hkl] at m1
      have ha1 := k1.tup ha
      have hb1 := k1.tup hb2
      simp only [GT.T.size] at hj hb
      walk_at "go"
      refine ⟨⟨fun q σ H' => ∃ o4 o6, MkAt C H' self asl amet aro ns M (rs ++ brings (sl ns) fr (ks.take q) (fr + ks.length)) (fr + ks.length + cellss (ks.take q)) ∧
        Kp [self, amet, aro] H H' ∧ σ = [some (.ref self), some (.int c), some (.ref a), some (.int fr), o4, o6],
        ⟨_, _, by simpa [cellss, brings] using m1, by walk_at "kp", rfl⟩, ?_, ?_, ?_⟩⟩
      · rintro q σ H' ⟨o4, o6, e1, e4, rfl⟩
        exact e4.tup hb2
      · rintro q y σ H4 H5 hy ⟨o4, o6, e1, e4, rfl⟩ k5
        have kk5 : Kp [self, amet, aro] H H5 := e4.trans (k5.any _)
        obtain ⟨t, ht1, ht2⟩ := hk.get hy
        have hmem := List.mem_of_getElem? ht1
        have hq : q < ks.length := (List.getElem?_eq_some_iff.mp ht1).1
        have hs1 := sizes_mem hmem
        have e1' := e1.keep k5
        obtain ⟨dx5, ob5⟩ := e1'.ob
        have e3l := brings_len (sl ns) (ks.take q) fr (fr + ks.length)
        have hsz := sizes_take ht1
        refine ⟨_, rfl, self, _, _, rfl, ob5, rfl, _, rfl, _, rfl, fr, q, rfl, rfl, _, rfl, self, asl, amet, aro, ns, M, _, _, fr + q, y, t, rfl, e1', ht2.kp kk5, by omega, fun z hz => hx z (by simp only [GT.T.occ]; exact occ_take ht1 hz), ?_, fun H6 m6 k6 => ?_⟩
        · simp only [List.length_append]; omega
        · refine ⟨_, _, ?_, kk5.trans k6, rfl⟩
          rw [take_succ ht1, cellss_append, brings_snoc, ← List.append_assoc]
          simp only [cellss, Nat.add_zero]
          rw [List.length_take, Nat.min_eq_left (by omega), ← Nat.add_assoc]; exact m6
      · rintro σ H4 ⟨o4, o6, e1, e4, rfl⟩
        rw [hkl, List.take_length] at e1
        obtain ⟨dx4, ob4⟩ := e1.ob
        obtain ⟨xs4, hro4, hrv4⟩ := e1.ro
        have hlen4 := hrv4.len
        have e3l := brings_len (sl ns) ks fr (fr + ks.length)
        rw [List.length_append] at hlen4
        have hlen5 : xs4.length ≤ 100000 := by omega
        have ha4 := e4.tup ha
        have hb4 := e4.tup hb2
        walk_at "go"
        intro p H5 n5 k5 h5
        walk_at "go"
        intro H6 k6 h6
        have h5' : H5 p = some (.tup ((Row.build c x ks.length fr).ks.map kV)) := by
          rw [h5, hkl]; rfl
        refine h H6 ?_ (by walk_at "kp")
        have := (e1.keep k5).app (r := .build c x ks.length fr) (k5.obj0 hro4) h5' k6 h6
        simpa [bring, GT.T.cells, Nat.add_assoc, List.append_assoc] using this
abbrev s_Mbring_kids : Stmt := (inClass (topS 8) 6)
abbrev N_Mbring_kids : List Str := ["self", "term", "first", "place", "kid"]
theorem sc_Mbring_kids : FnScope N_Mbring_kids ["self", "term"] (defScope s_Mbring_kids) := ⟨rfl, rfl, rfl, by decide +kernel, rfl, by decide +kernel, by decide +kernel⟩

def spBringKids (C : Addr) (j : Nat) : Sp := fun vs H Q _ => ∃ (self asl amet aro : Addr) (ns : List Str) (M : Nat → Prop) (rs : List Row) (fr : Nat) (v : V) (x : Str) (ks : List GT.T), vs = [.ref self, v] ∧ MkAt C H self asl amet aro ns M rs fr ∧ TA .str H v (.app x ks) ∧ sizes ks ≤ j ∧ (∀ x ∈ occs ks, x ∈ ns) ∧ rs.length + sizes ks ≤ 1000 ∧
  ∀ H', MkAt C H' self asl amet aro ns M (rs ++ brings (sl ns) 0 ks ks.length) (ks.length + cellss ks) → Kp [self, amet, aro] H H' → Q .non H'
theorem ok_bring_kids (tx : Txt K w mg C d es n) {j : Nat} (m_cells_for : MDef P w K mg base C "cells_for" k ["self", "many"] (spCells C)) (m_bring : MDef P w K mg base C "bring" k ["self", "cell", "term"] (spBring C j)) (D : MAt K C "bring_kids" "Maker.bring_kids" s_Mbring_kids ["self", "term"]) : MDef P w K mg base C "bring_kids" (k + 1) ["self", "term"] (spBringKids C j) := by
  refine D.ok sc_Mbring_kids (fun vs H Q E h => ?_) (fun f cdv A outer s H vs Q E hr h => ?_)
  · obtain ⟨self, asl, amet, aro, ns, M, rs, fr, v, x, ks, rfl, _⟩ := h; rfl
  · obtain ⟨self, asl, amet, aro, ns, M, rs, fr, v, x, ks, rfl, hm, ht, hj, hx, hb, h⟩ := h
    have hu := hu_of hr
    have c1 := tx.cl; have c2 := tx.nSl; have c3 := tx.nMe; have c4 := tx.nRo; have c5 := tx.nFr
    obtain ⟨dx, ob⟩ := hm.ob
    obtain ⟨a, b, vk, rfl, ha, hb2, hk⟩ := ht
    have hkl := hk.len
    refine ⟨_, (pss_cons (ps_fldN (pv 0) pe_int)
      (pss_cons (ps_set (i := 2) sc_Mbring_kids.nd rfl (by first | exact .inl rfl | exact .inr rfl) (pe_mt m_cells_for tx.cl (pv 0) (hr.mono (by omega)) (pa_cons (pe_len (by rfl) tx.len_ (pe_tc (n := 2) (pv 1))) pa_nil)))
      (pss_one (ps_forET PassesOwn.never rfl (by rfl) tx.enumerate_ (pe_tc (n := 2) (pv 1)) (pg_name (i := 3) sc_Mbring_kids.nd rfl (by first | exact .inl rfl | exact .inr rfl)) (pg_name (i := 4) sc_Mbring_kids.nd rfl (by first | exact .inl rfl | exact .inr rfl)) (pss_one (ps_expr (pe_mt m_bring tx.cl (pv 0) (hr.mono (by omega)) (pa_cons (pe_op op_add (pv 2) (pv 3)) (pa_cons (pv 4) pa_nil))))))))), ?_⟩
    walk_at "go"
    intro H0 k0 h0
    have m0 : MkAt C H0 self asl amet aro ns M rs 0 := hm.cells k0 h0
    have ha0 := k0.tup ha
    have hb0 := k0.tup hb2
    walk_at "go"
    intro H1 m1 k1
    rw [hkl] at m1
    have ha1 := k1.tup ha0
    have hb1 := k1.tup hb0
    walk_at "go"
    refine ⟨⟨fun q σ H' => ∃ o4 o6, MkAt C H' self asl amet aro ns M (rs ++ brings (sl ns) 0 (ks.take q) ks.length) (ks.length + cellss (ks.take q)) ∧
      Kp [self, amet, aro] H H' ∧ σ = [some (.ref self), some (.ref a), some (.int (0 : Nat)), o4, o6],
      ⟨_, _, by simpa [cellss, brings] using m1, by walk_at "kp", rfl⟩, ?_, ?_, ?_⟩⟩
    · rintro q σ H' ⟨o4, o6, e1, e4, rfl⟩
      exact e4.tup hb2
    · rintro q y σ H4 H5 hy ⟨o4, o6, e1, e4, rfl⟩ k5
      have kk5 : Kp [self, amet, aro] H H5 := e4.trans (k5.any _)
      obtain ⟨t, ht1, ht2⟩ := hk.get hy
      have hmem := List.mem_of_getElem? ht1
      have hq : q < ks.length := (List.getElem?_eq_some_iff.mp ht1).1
      have hs1 := sizes_mem hmem
      have e1' := e1.keep k5
      obtain ⟨dx5, ob5⟩ := e1'.ob
      have e3l := brings_len (sl ns) (ks.take q) 0 ks.length
      have hsz := sizes_take ht1
      refine ⟨_, rfl, self, _, _, rfl, ob5, rfl, _, rfl, _, rfl, (0 : Nat), q, rfl, rfl, _, rfl, self, asl, amet, aro, ns, M, _, _, 0 + q, y, t, rfl, e1', ht2.kp kk5, by omega, fun z hz => hx z (occ_take ht1 hz), ?_, fun H6 m6 k6 => ?_⟩
      · simp only [List.length_append]; omega
      · refine ⟨_, _, ?_, kk5.trans k6, rfl⟩
        rw [take_succ ht1, cellss_append, brings_snoc, ← List.append_assoc]
        simp only [cellss, Nat.add_zero]
        rw [List.length_take, Nat.min_eq_left (by omega), ← Nat.add_assoc]; exact m6
    · rintro σ H4 ⟨o4, o6, e1, e4, rfl⟩
      rw [hkl, List.take_length] at e1
      exact h H4 e1 e4
end
end GT
/-! GtR: the maker's methods, part 3: begin, goal, init. -/
namespace GT
open PySem L2 GL PyProof.Rows RT
/-! tactics: a fact of the heap by what was kept; the reading's small steps -/
local macro_rules | `(tactic| walk_at "hp") => `(tactic| first | assumption | (refine Kp.tup (by assumption) ?_; walk_at "hp") | (refine Kp.obj0 (by assumption) ?_; walk_at "hp") | (refine Kp.obj1 (by assumption) ?_ (by first | assumption | (apply Ne.symm; assumption)); walk_at "hp"))
local macro_rules | `(tactic| walk_at "go") => `(tactic| repeat (first | (refine And.intro ?_ ?_; (first | rfl | walk_at "hp" | decide | (refine Or.inl ?_; walk_at "hp") | (refine Or.inr ?_; walk_at "hp") | (refine SqL.of ?_; walk_at "hp") | exact Nat.le_of_ble_eq_true rfl | exact kvS _ | exact kvI _ | exact cmulL rfl | exact cmulR rfl | exact cpw rfl | exact cdv rfl | omega | (dsimp only; first | decide | omega))) | apply Exists.intro))
local macro_rules | `(tactic| walk_at "kp") => `(tactic| first | assumption | exact Kp.refl _ _ | (refine Kp.trans ?_ (Kp.wk (by assumption) (by simp)); walk_at "kp"))
local macro_rules | `(tactic| walk_at "nn") => `(tactic| first | assumption | (refine Kp.fr (by assumption) _ ?_; walk_at "nn"))

/-- the rows of a goal; j: it is the last, a jump -/
inductive GR (f : Str → Nat) (j : Bool) : GT.T → List Row → Prop where
  | named {s : Str} {ks : List GT.T} (h : Word s) : GR f j (.app s ks) (brings f 0 ks ks.length ++ [if j then .jump s ks.length else .call s ks.length])
  | nt {s : Str} {ks : List GT.T} (h : Word s) : GR f j (.app "not" [.app s ks]) (brings f 0 ks ks.length ++ [.nt s ks.length])
  | deed (q : Deed) {ks : List GT.T} (h : ks.length = q.many) : GR f j (.app q.sign ks) (brings f 0 ks ks.length ++ [.deed q])
section
variable {P : Program} {w : World} {K : PySem.W.Frag} {mg : Str → Option Value} {base : Heap} {C d : Addr} {es : Array DictEntry} {n : Nat} {k : Nat}
abbrev s_Mbegin : Stmt := (inClass (topS 8) 4)
abbrev N_Mbegin : List Str := ["self", "slot"]
theorem sc_Mbegin : FnScope N_Mbegin ["self"] (defScope s_Mbegin) := ⟨rfl, rfl, rfl, by decide +kernel, rfl, by decide +kernel, by decide +kernel⟩

def spBegin (C : Addr) : Sp := fun vs H Q _ => ∃ (self asl amet aro : Addr) (ns : List Str) (M : Nat → Prop) (rs : List Row) (fr F : Nat), vs = [.ref self] ∧ MkAt C H self asl amet aro ns M rs fr ∧ (∀ s, M s ↔ s < F) ∧ rs.length + 1 + ns.length ≤ 1000 ∧
  ∀ H', MkAt C H' self asl amet aro ns M (rs ++ .frame :: (List.range' F (ns.length - F)).map Row.new) fr → Kp [self, amet, aro] H H' → Q .non H'
theorem ok_begin (tx : Txt K w mg C d es n) (D : MAt K C "begin" "Maker.begin" s_Mbegin ["self"]) : MDef P w K mg base C "begin" (k + 1) ["self"] (spBegin C) := by
  refine D.ok sc_Mbegin (fun vs H Q E h => ?_) (fun f cdv A outer s H vs Q E hr h => ?_)
  · obtain ⟨self, asl, amet, aro, ns, M, rs, fr, F, rfl, _⟩ := h; rfl
  · obtain ⟨self, asl, amet, aro, ns, M, rs, fr, F, rfl, hm, hF, hb, h⟩ := h
    have hu := hu_of hr
    have c1 := tx.cl; have c2 := tx.nSl; have c3 := tx.nMe; have c4 := tx.nRo; have c5 := tx.nFr
    obtain ⟨dx, ob⟩ := hm.ob
    obtain ⟨xs, hro, hrv⟩ := hm.ro
    have hlen := hrv.len
    have hlen2 : xs.length ≤ 100000 := by omega
    refine ⟨_, (pss_cons (ps_expr (pe_app (pe_fld (pv 0) rfl) (pe_tupN (pa_cons pe_str pa_nil))))
      (pss_one (ps_forR PassesOwn.never rfl (by rfl) tx.range_ (pe_lenD (by rfl) tx.len_ (pe_fld (pv 0) rfl)) (pg_name (i := 1) sc_Mbegin.nd rfl (by first | exact .inl rfl | exact .inr rfl)) (pss_one (ps_if (pt_cmp (pc_dnotin hu (pv 1) (pe_fld (pv 0) rfl)) (by rfl)) (pss_one (ps_expr (pe_app (pe_fld (pv 0) rfl) (pe_tupN (pa_cons pe_str (pa_cons (pv 1) pa_nil)))))) pss_nil))))), ?_⟩
    walk_at "go"
    intro p H1 n1 k1 h1
    walk_at "go"
    intro H2 k2 h2
    have m2 := (hm.keep k1).app (r := .frame) (k1.obj0 hro) h1 k2 h2
    obtain ⟨dx2, ob2⟩ := m2.ob
    have hsl2 := m2.sl
    have hsz : (slk ns).length = ns.length := slkF_len ns 0
    have hsz2 : (slk ns).length ≤ 1000000 := by omega
    walk_at "go"
    refine ⟨⟨fun q σ H' => ∃ o1, MkAt C H' self asl amet aro ns M (rs ++ .frame :: (List.range' F (q - F)).map Row.new) fr ∧ Kp [self, amet, aro] H H' ∧ σ = [some (.ref self), o1],
      ⟨_, by simpa using m2, by walk_at "kp", rfl⟩, ?_, ?_⟩⟩
    · rintro q σ H4 hq ⟨o1, e1, e4, rfl⟩
      have hq : q < ns.length := by rw [← hsz]; exact hq
      obtain ⟨dx4, ob4⟩ := e1.ob
      obtain ⟨ms, hme, hmm, hml⟩ := e1.me
      obtain ⟨xs4, hro4, hrv4⟩ := e1.ro
      have hlen4 := hrv4.len
      simp only [List.length_append, List.length_cons, List.length_map, List.length_range'] at hlen4
      have hlen5 : xs4.length ≤ 100000 := by omega
      walk_at "go"
      refine ⟨dgI hme (mtk_get ms q), ?_⟩
      walk_at "go"
      by_cases hs : q ∈ ms
      · rw [if_pos hs]
        have hqF : q < F := (hF q).mp ((hmm q).mp hs)
        refine iteF ⟨_, ?_, e4, rfl⟩
        have z1 : q + 1 - F = q - F := by omega
        rw [z1]; exact e1
      · rw [if_neg hs]
        have hqF : ¬ q < F := fun z => hs ((hmm q).mpr ((hF q).mpr z))
        refine iteT ?_
        walk_at "go"
        intro p5 H5 n5 k5 h5
        walk_at "go"
        intro H6 k6 h6
        refine ⟨_, ?_, (e4.trans (k5.any _)).trans (k6.wk (by simp)), rfl⟩
        have := (e1.keep k5).app (r := .new q) (k5.obj0 hro4) h5 k6 h6
        have z1 : q + 1 - F = (q - F) + 1 := by omega
        have z2 : F + (q - F) = q := by omega
        rw [z1, List.range'_1_concat, z2, List.map_append]
        simpa using this
    · rintro σ H4 ⟨o1, e1, e4, rfl⟩
      have e1 : MkAt C H4 self asl amet aro ns M (rs ++ .frame :: (List.range' F ((slk ns).length - F)).map Row.new) fr := e1
      rw [hsz] at e1
      exact h H4 e1 e4
abbrev s_Mgoal : Stmt := (inClass (topS 8) 7)
abbrev N_Mgoal : List Str := ["self", "term", "word"]
theorem sc_Mgoal : FnScope N_Mgoal ["self", "term", "word"] (defScope s_Mgoal) := ⟨rfl, rfl, rfl, by decide +kernel, rfl, by decide +kernel, by decide +kernel⟩

def spMGoal (C : Addr) (j : Nat) : Sp := fun vs H Q _ => ∃ (self asl amet aro : Addr) (ns : List Str) (M : Nat → Prop) (rs : List Row) (fr : Nat) (v : V) (t : GT.T) (b : Bool), vs = [.ref self, v, .str (if b then "jump" else "call")] ∧ MkAt C H self asl amet aro ns M rs fr ∧ TA .str H v t ∧ GK t ∧ t.size ≤ j ∧ (∀ x ∈ t.occ, x ∈ ns) ∧ rs.length + t.size + 1 ≤ 1000 ∧
  ∀ H' rs' fr', MkAt C H' self asl amet aro ns M (rs ++ rs') fr' → GR (sl ns) b t rs' → Kp [self, amet, aro] H H' → Q .non H'
theorem ok_goal (tx : Txt K w mg C d es n) {j : Nat} (m_bring_kids : MDef P w K mg base C "bring_kids" k ["self", "term"] (spBringKids C j)) (D : MAt K C "goal" "Maker.goal" s_Mgoal ["self", "term", "word"]) : MDef P w K mg base C "goal" (k + 1) ["self", "term", "word"] (spMGoal C j) := by
  refine D.ok sc_Mgoal (fun vs H Q E h => ?_) (fun f cdv A outer s H vs Q E hr h => ?_)
  · obtain ⟨self, asl, amet, aro, ns, M, rs, fr, v, t, b, rfl, _⟩ := h; rfl
  · obtain ⟨self, asl, amet, aro, ns, M, rs, fr, v, t, jb, rfl, hm, ht, hg, hj, hx, hb, h⟩ := h
    have hu := hu_of hr
    have c1 := tx.cl; have c2 := tx.nSl; have c3 := tx.nMe; have c4 := tx.nRo; have c5 := tx.nFr
    obtain ⟨dx, ob⟩ := hm.ob
    refine ⟨_, (pss_cons (ps_if (pt_cmpR op_eq (pe_tc (n := 1) (pv 1)) pe_str (nomark _)) (pss_cons (ps_expr (pe_mt m_bring_kids tx.cl (pv 0) (hr.mono (by omega)) (pa_cons (pe_tc (n := 0) (pe_tc (n := 2) (pv 1))) pa_nil)))
      (pss_cons (ps_expr (pe_app (pe_fld (pv 0) rfl) (pe_tupN (pa_cons pe_str (pa_cons (pe_tc (n := 1) (pe_tc (n := 0) (pe_tc (n := 2) (pv 1)))) (pa_cons (pe_len (by rfl) tx.len_ (pe_tc (n := 2) (pe_tc (n := 0) (pe_tc (n := 2) (pv 1))))) pa_nil))))))
      (pss_one ps_retN))) pss_nil)
      (pss_cons (ps_expr (pe_mt m_bring_kids tx.cl (pv 0) (hr.mono (by omega)) (pa_cons (pv 1) pa_nil)))
      (pss_one (ps_if (pt_cmpR (op_in_kd tx.kd) (pe_tc (n := 1) (pv 1)) (pe_glob (v := .ref _) rfl tx.mgD rfl) (by rfl)) (pss_one (ps_expr (pe_app (pe_fld (pv 0) rfl) (pe_tupN (pa_cons (pe_ix ix_kdict (pe_glob (v := .ref _) rfl tx.mgD rfl) (pe_tc (n := 1) (pv 1)) (fun _ _ => rfl)) pa_nil))))) (pss_one (ps_expr (pe_app (pe_fld (pv 0) rfl) (pe_tupN (pa_cons (pv 2) (pa_cons (pe_tc (n := 1) (pv 1)) (pa_cons (pe_len (by rfl) tx.len_ (pe_tc (n := 2) (pv 1))) pa_nil))))))))))), ?_⟩
    cases hg with
    | named hw =>
      rename_i s ks
      obtain ⟨a, b, vk, rfl, ha, hb2, hk⟩ := id ht
      have hkl := hk.len
      simp only [GT.T.size] at hj hb
      have hn : decide (V.str s = V.str "not") = false := by
        rw [decide_eq_false_iff_not]; intro z; injection z with z; exact hw.2.2 z
      walk_at "go"
      refine itF hn ?_
      walk_at "go"
      intro H1 m1 k1
      obtain ⟨dx1, ob1⟩ := m1.ob
      obtain ⟨xs1, hro1, hrv1⟩ := m1.ro
      have hlen1 := hrv1.len
      rw [List.length_append, brings_len] at hlen1
      have hlen3 : xs1.length ≤ 100000 := by omega
      have ha1 := k1.tup ha
      have hb1 := k1.tup hb2
      have hmiss := tx.miss s hw.2.1
      refine ⟨_, rfl, a, _, _, rfl, ha1, rfl, s, none, rfl, rfl, hmiss, _, rfl, iteF ?_⟩
      walk_at "go"
      intro p H2 n2 k2 h2
      walk_at "go"
      intro H3 k3 h3
      have h2' : H2 p = some (.tup ((if jb then Row.jump s ks.length else Row.call s ks.length : Row).ks.map kV)) := by
        rw [h2, hkl]; cases jb <;> rfl
      refine h H3 _ (ks.length + cellss ks) ?_ (.named hw) (by walk_at "kp")
      have := (m1.keep k2).app (k2.obj0 hro1) h2' k3 h3
      rw [← List.append_assoc]; exact this
    | nt hw =>
      rename_i s ks
      obtain ⟨a, b, vk, rfl, ha, hb2, hk⟩ := id ht
      match vk, hk with
      | [v2], ⟨hk, _⟩ =>
      obtain ⟨a2, b3, vk2, rfl, ha2, hb3, hk2⟩ := id hk
      have hkl := hk2.len
      simp only [GT.T.size, sizes] at hj hb
      walk_at "go"
      refine ⟨fun x hz => hx x (by simp [GT.T.occ, occs, hz]), by omega, fun H1 m1 k1 => ?_⟩
      obtain ⟨dx1, ob1⟩ := m1.ob
      obtain ⟨xs1, hro1, hrv1⟩ := m1.ro
      have hlen1 := hrv1.len
      rw [List.length_append, brings_len] at hlen1
      have hlen3 : xs1.length ≤ 100000 := by omega
      have ha1 := k1.tup ha
      have hb1 := k1.tup hb2
      have ha21 := k1.tup ha2
      have hb31 := k1.tup hb3
      walk_at "go"
      intro p H2 n2 k2 h2
      walk_at "go"
      intro H3 k3 h3
      have h2' : H2 p = some (.tup ((Row.nt s ks.length).ks.map kV)) := by
        rw [h2, hkl]; rfl
      refine h H3 _ (ks.length + cellss ks) ?_ (.nt hw) (by walk_at "kp")
      have := (m1.keep k2).app (k2.obj0 hro1) h2' k3 h3
      rw [← List.append_assoc]; exact this
    | deed q hq =>
      rename_i ks
      obtain ⟨a, b, vk, rfl, ha, hb2, hk⟩ := id ht
      have hkl := hk.len
      simp only [GT.T.size] at hj hb
      have hn : decide (V.str q.sign = V.str "not") = false := by cases q <;> decide +kernel
      walk_at "go"
      refine itF hn ?_
      walk_at "go"
      intro H1 m1 k1
      obtain ⟨dx1, ob1⟩ := m1.ob
      obtain ⟨xs1, hro1, hrv1⟩ := m1.ro
      have hlen1 := hrv1.len
      rw [List.length_append, brings_len] at hlen1
      have hlen3 : xs1.length ≤ 100000 := by omega
      have ha1 := k1.tup ha
      have hb1 := k1.tup hb2
      obtain ⟨tok, hhit⟩ := tx.hit q
      have hkd : KDct K w d q.sign (.str q.word) := ⟨es, n, _, tx.kd.at_, tx.kd.lit, hhit, tok, rfl⟩
      refine ⟨_, rfl, a, _, _, rfl, ha1, rfl, q.sign, _, rfl, rfl, hhit, _, rfl, iteT ?_⟩
      refine ⟨_, rfl, self, C, dx1, _, _, rfl, ob1, c1, c4, mf_ro _ _ _ _, aro, xs1, rfl, hro1, _, rfl, a, _, _, rfl, ha1, rfl, d, _, .str q.word, rfl, rfl, hkd, ?_⟩
      walk_at "go"
      intro p H2 n2 k2 h2
      walk_at "go"
      intro H3 k3 h3
      have h2' : H2 p = some (.tup ((Row.deed q).ks.map kV)) := h2
      refine h H3 _ (ks.length + cellss ks) ?_ (.deed q hq) (by walk_at "kp")
      have := (m1.keep k2).app (k2.obj0 hro1) h2' k3 h3
      rw [← List.append_assoc]; exact this
abbrev s_Minit : Stmt := (inClass (topS 8) 0)
abbrev N_Minit : List Str := ["self", "terms", "name"]
theorem sc_Minit : FnScope N_Minit ["self", "terms"] (defScope s_Minit) := ⟨rfl, rfl, rfl, by decide +kernel, rfl, by decide +kernel, by decide +kernel⟩

def spMInit (C : Addr) : Sp := fun vs H Q _ => ∃ (self a dx : Addr) (xs : List V) (ts : List GT.T), vs = [.ref self, .ref a] ∧ H self = some (.ins C dx []) ∧ H a = some (.lst xs) ∧ TAs .str H xs ts ∧ sizes ts ≤ 400 ∧
  ∀ asl amet aro H', MkAt C H' self asl amet aro (names (occs ts)) (fun _ => False) [] 0 → H asl = none → H amet = none → H aro = none → Kp [self] H H' → Q .non H'
theorem ok_init (tx : Txt K w mg C d es n) (d_unknowns_of : Def P w K mg base "unknowns_of" k ["terms"] spUnknowns) (D : MAt K C "__init__" "Maker.__init__" s_Minit ["self", "terms"]) : MDef P w K mg base C "__init__" (k + 1) ["self", "terms"] (spMInit C) := by
  refine D.ok sc_Minit (fun vs H Q E h => ?_) (fun f cdv A outer s H vs Q E hr h => ?_)
  · obtain ⟨self, a, dx, xs, ts, rfl, _⟩ := h; rfl
  · obtain ⟨self, a, dx, xs, ts, rfl, ob, ha, ht, hsz, h⟩ := h
    have hu := hu_of hr
    have c1 := tx.cl; have c2 := tx.nSl; have c3 := tx.nMe; have c4 := tx.nRo; have c5 := tx.nFr
    have nas : a ≠ self := by rintro rfl; rw [ob] at ha; cases ha
    refine ⟨_, (pss_cons (ps_fldN (pv 0) pe_dnewKN)
      (pss_cons (ps_forL PassesOwn.never rfl (pe_cl d_unknowns_of (hr.mono (by omega)) (pa_cons (pv 1) pa_nil)) (pg_name (i := 2) sc_Minit.nd rfl (by first | exact .inl rfl | exact .inr rfl)) (pss_one (ps_putK hu (pe_fld (pv 0) rfl) (pv 2) (pe_lenD (by rfl) tx.len_ (pe_fld (pv 0) rfl)))))
      (pss_cons (ps_fldN (pv 0) pe_dnewKN)
      (pss_cons (ps_fldN (pv 0) (pe_lstN pa_nil))
      (pss_one (ps_fldN (pv 0) pe_int)))))), ?_⟩
    walk_at "go"
    intro asl H1 n1 k1 h1
    have nsl : asl ≠ self := by rintro rfl; rw [ob] at n1; cases n1
    walk_at "go"
    intro H2 k2 h2
    have hsl2 := k2.obj1 h1 nsl
    have h2 : H2 self = some (.ins C dx [("slots", .ref asl)]) := h2
    have ha2 : H2 a = some (.lst xs) := k2.obj1 (k1.obj0 ha) nas
    have ht2 : TAs .str H2 xs ts := (ht.kp k1).kp k2
    refine ⟨_, rfl, a, xs, ts, rfl, ha2, ht2, by omega, fun pl H3 e3 n3 k3 => ⟨pl, (names (occs ts)).map V.str, rfl, ⟨⟨fun q σ H' => ∃ o, H' asl = some (.dK (slk ((names (occs ts)).take q))) ∧ Kp [asl] H3 H' ∧ σ = [some (.ref self), some (.ref a), o],
      ⟨_, k3.obj0 hsl2, Kp.refl _ _, rfl⟩, ?_, ?_, ?_⟩⟩⟩⟩
    all_goals have npl : pl ≠ asl := fun e => by rw [e] at n3; rw [n3] at hsl2; cases hsl2
    · rintro q σ H' ⟨o, e1, e2, rfl⟩
      exact e2.obj1 e3 npl
    · rintro q y σ H4 hy ⟨o, e1, e2, rfl⟩
      obtain ⟨x, hx, rfl⟩ : ∃ x, (names (occs ts))[q]? = some x ∧ V.str x = y := by
        rw [List.getElem?_map] at hy
        obtain ⟨x, h1, h2⟩ := Option.map_eq_some_iff.mp hy
        exact ⟨x, h1, h2⟩
      have hlt : q < (names (occs ts)).length := (List.getElem?_eq_some_iff.mp hx).1
      have hnl : ((names (occs ts)).take q).length = q := by rw [List.length_take]; omega
      have hnn := names_len_le (occs ts)
      have hnn2 := occs_le_sizes ts
      have ob4 : H4 self = some (.ins C dx [("slots", .ref asl)]) := e2.obj1 (k3.obj0 h2) (Ne.symm nsl)
      have hll := slkF_len ((names (occs ts)).take q) 0
      have hll2 : (slk ((names (occs ts)).take q)).length ≤ 100000 := by rw [hll, hnl]; omega
      have hxn : x ∉ (names (occs ts)).take q := by
        intro hm
        obtain ⟨i, hi, e⟩ := List.getElem_of_mem hm
        rw [List.getElem_take] at e
        have hi2 : i < q := by rw [hnl] at hi; exact hi
        have i1 := idx_get (names_nodup (occs ts)) i (by omega)
        have i2 := idx_get (names_nodup (occs ts)) q hlt
        have ex : (names (occs ts))[q] = x := (List.getElem?_eq_some_iff.mp hx).2
        rw [e] at i1; rw [ex] at i2; omega
      walk_at "go"
      intro H5 k5 h5
      refine ⟨_, ?_, e2.trans k5, rfl⟩
      rw [h5, hll, slk_put hxn]
      rw [List.take_add_one, hx]; rfl
    · rintro σ H4 ⟨o, e1, e2, rfl⟩
      rw [List.length_map, List.take_length] at e1
      have ob4 : H4 self = some (.ins C dx [("slots", .ref asl)]) := e2.obj1 (k3.obj0 h2) (Ne.symm nsl)
      walk_at "go"
      intro amet H5 n5 k5 h5
      have nm : amet ≠ self := by rintro rfl; rw [ob4] at n5; cases n5
      have nm2 : asl ≠ amet := by rintro rfl; rw [e1] at n5; cases n5
      walk_at "go"
      intro H6 k6 h6
      have h6 : H6 self = some (.ins C dx [("slots", .ref asl), ("met", .ref amet)]) := h6
      walk_at "go"
      intro aro H7 n7 k7 h7
      have nr : aro ≠ self := by rintro rfl; rw [h6] at n7; cases n7
      walk_at "go"
      intro H8 k8 h8
      have h8 : H8 self = some (.ins C dx [("slots", .ref asl), ("met", .ref amet), ("rows", .ref aro)]) := h8
      walk_at "go"
      intro H9 k9 h9
      have h9 : H9 self = some (.ins C dx (mf asl amet aro (0 : Nat))) := h9
      have nn5 : H amet = none := by walk_at "nn"
      have nn7 : H aro = none := by walk_at "nn"
      have kk : Kp [self, asl] H H9 := by walk_at "kp"
      refine h asl amet aro H9 ⟨⟨dx, h9⟩, ?_, ⟨[], ?_, by simp, by simp⟩, ⟨[], ?_, trivial⟩, nm2⟩ n1 nn5 nn7 (kk.d2 n1)
      · exact k9.obj1 (k8.obj1 (k7.obj0 (k6.obj1 (k5.obj0 e1) nsl)) nsl) nsl
      · exact k9.obj1 (k8.obj1 (k7.obj0 (k6.obj1 h5 nm)) nm) nm
      · exact k9.obj1 (k8.obj1 h7 nr) nr
end
end GT
/-! GtS: rule_code. -/
namespace GT
open PySem L2 GL PyProof.Rows RT
/-! tactics: a fact of the heap by what was kept; the reading's small steps -/
local macro_rules | `(tactic| walk_at "hp") => `(tactic| first | assumption | (refine Kp.tup (by assumption) ?_; walk_at "hp") | (refine Kp.obj0 (by assumption) ?_; walk_at "hp") | (refine Kp.obj1 (by assumption) ?_ (by first | assumption | (apply Ne.symm; assumption)); walk_at "hp"))
local macro_rules | `(tactic| walk_at "go") => `(tactic| repeat (first | (refine And.intro ?_ ?_; (first | rfl | walk_at "hp" | decide | (refine Or.inl ?_; walk_at "hp") | (refine Or.inr ?_; walk_at "hp") | (refine SqL.of ?_; walk_at "hp") | exact Nat.le_of_ble_eq_true rfl | exact kvS _ | exact kvI _ | exact cmulL rfl | exact cmulR rfl | exact cpw rfl | exact cdv rfl | omega | (dsimp only; first | decide | omega))) | apply Exists.intro))
local macro_rules | `(tactic| walk_at "kp") => `(tactic| first | assumption | exact Kp.refl _ _ | (refine Kp.trans ?_ (Kp.wk (by assumption) (by simp)); walk_at "kp"))
local macro_rules | `(tactic| walk_at "nn") => `(tactic| first | assumption | (refine Kp.fr (by assumption) _ ?_; walk_at "nn"))

def GRs (f : Str → Nat) : List GT.T → List Row → Prop
  | [], rs => rs = []
  | g :: gs, rs => ∃ r1 r2, rs = r1 ++ r2 ∧ GR f false g r1 ∧ GRs f gs r2
theorem GRs.snoc {f : Str → Nat} {g : GT.T} {r2 : List Row} : ∀ {gs : List GT.T} {rs : List Row}, GRs f gs rs → GR f false g r2 → GRs f (gs ++ [g]) (rs ++ r2)
  | [], rs, h, h2 => by
    have e : rs = [] := h
    subst e
    exact ⟨r2, [], by simp, h2, rfl⟩
  | a :: gs, rs, ⟨q1, q2, e, g1, g2⟩, h2 => by
    subst e
    exact ⟨q1, q2 ++ r2, by simp, g1, GRs.snoc g2 h2⟩
theorem GR.len {f : Str → Nat} {j : Bool} {g : GT.T} {rs : List Row} (h : GR f j g rs) : rs.length ≤ g.size := by
  cases h with
  | named h => simp only [List.length_append, brings_len, List.length_singleton, GT.T.size]; omega
  | nt h => simp only [List.length_append, brings_len, List.length_singleton, GT.T.size, sizes]; omega
  | deed q h => simp only [List.length_append, brings_len, List.length_singleton, GT.T.size]; omega
theorem GRs.len {f : Str → Nat} : ∀ {gs : List GT.T} {rs : List Row}, GRs f gs rs → rs.length ≤ sizes gs
  | [], rs, h => by
    have e : rs = [] := h
    subst e; simp [sizes]
  | g :: gs, rs, ⟨r1, r2, e, h1, h2⟩ => by
    subst e
    have := h1.len
    have := GRs.len h2
    simp only [List.length_append, sizes]; omega
/-- what follows the last goal's rows -/
def Tail (rs tl : List Row) : Prop := (rs = [] ∧ tl = [.back]) ∨ ∃ r0 r, rs = r0 ++ [r] ∧ ((r.word = ("jump" : Str) ∧ tl = []) ∨ (r.word ≠ ("jump" : Str) ∧ tl = [.back]))
/-- a rule's rows -/
inductive RuleRows : Rule → List Row → Prop where
  | fact {s : Str} {ks : List GT.T} {rH tl : List Row} (h : Takes (sl (names (occs ks))) 0 ks ks.length rH) (t : Tail rH tl) : RuleRows (.app s ks, []) (rH ++ tl)
  | rule {s : Str} {ks gs : List GT.T} {g : GT.T} {ns : List Str} {rH rG rg tl : List Row} (e : ns = names (occs ks ++ occs (gs ++ [g]))) (h : Takes (sl ns) 0 ks ks.length rH) (hg : GRs (sl ns) gs rG) (hl : GR (sl ns) true g rg)
      (t : Tail (rH ++ .frame :: (List.range' (names (occs ks)).length (ns.length - (names (occs ks)).length)).map Row.new ++ rG ++ rg) tl) :
      RuleRows (.app s ks, gs ++ [g]) (rH ++ .frame :: (List.range' (names (occs ks)).length (ns.length - (names (occs ks)).length)).map Row.new ++ rG ++ rg ++ tl)
theorem tail_ex (rs : List Row) : ∃ tl, Tail rs tl ∧ tl.length ≤ 1 := by
  rcases List.eq_nil_or_concat rs with e | ⟨r0, r, e⟩
  · exact ⟨[.back], .inl ⟨e, rfl⟩, by simp⟩
  · by_cases h : r.word = ("jump" : Str)
    · exact ⟨[], .inr ⟨r0, r, by rw [e, List.concat_eq_append], .inl ⟨h, rfl⟩⟩, by simp⟩
    · exact ⟨[.back], .inr ⟨r0, r, by rw [e, List.concat_eq_append], .inr ⟨h, rfl⟩⟩, by simp⟩
theorem cutV_init (xs : List V) (v : V) : cutV (xs ++ [v]) none (some (-1)) = xs := by
  unfold cutV HT.sIx
  have e : ((-1 : Int) + ((xs ++ [v]).length : Nat)).toNat = xs.length := by rw [List.length_append, List.length_singleton]; omega
  simp only [e]
  rw [if_pos (by decide)]
  simp
theorem sIx_init (xs : List V) (v : V) : ¬ (HT.sIx (xs ++ [v]).length 0 none = 0 ∧ HT.sIx (xs ++ [v]).length (xs ++ [v]).length (some (-1)) = (xs ++ [v]).length) := by
  rintro ⟨_, h⟩
  unfold HT.sIx at h
  rw [List.length_append, List.length_singleton] at h
  simp only [] at h
  rw [if_pos (by decide)] at h
  omega
theorem mf_no {a b c : Addr} {z : Int} {m : Str} (h : (decide (m = "slots") || decide (m = "met") || decide (m = "rows") || decide (m = "fresh")) = false) : (mf a b c z).lookup m = none := by
  simp only [Bool.or_eq_false_iff, decide_eq_false_iff_not] at h
  obtain ⟨⟨⟨h1, h2⟩, h3⟩, h4⟩ := h
  unfold mf
  simp [List.lookup, beq_eq_false_iff_ne.mpr h1, beq_eq_false_iff_ne.mpr h2, beq_eq_false_iff_ne.mpr h3, beq_eq_false_iff_ne.mpr h4]
/-- a rule's code at v -/
def CodeAt (H : Hp) (B : List Addr) (v : V) (i : Int) (r : Rule) : Prop := ∃ p aro xs rs, v = .ref p ∧ H p = some (.tup [.int i, .int ((names (occs (r.1 :: r.2))).length : Nat), .ref aro]) ∧ H aro = some (.lst xs) ∧ RowsAt H xs rs ∧ RuleRows r rs ∧ aro ∉ B
section
variable {P : Program} {w : World} {K : PySem.W.Frag} {mg : Str → Option Value} {base : Heap} {C d : Addr} {es : Array DictEntry} {n : Nat} {k : Nat}
theorem RowsAt.nil {H : Hp} {xs : List V} (h : RowsAt H xs []) : xs = [] := by
  cases xs with
  | nil => rfl
  | cons v r => exact False.elim h
theorem RowsAt.last {H : Hp} {r : Row} : ∀ {r0 : List Row} {xs : List V}, RowsAt H xs (r0 ++ [r]) → ∃ xs0 v, xs = xs0 ++ [v] ∧ RowAt H v r
  | [], [v], ⟨h, _⟩ => ⟨[], v, rfl, h⟩
  | [], v :: w :: t, ⟨_, h⟩ => False.elim h
  | [], [], h => False.elim h
  | a :: r0, v :: vs, ⟨_, h⟩ => by
    obtain ⟨xs0, u, e, h2⟩ := RowsAt.last (r0 := r0) h
    exact ⟨v :: xs0, u, by rw [e]; rfl, h2⟩
  | a :: r0, [], h => False.elim h
theorem rc_end {x asl amet aro : Addr} {ns : List Str} {M : Nat → Prop} {rz : List Row} {fr : Nat} {i : Int} {Hz : Hp} {D : Ends} {σ : L2.St} (tx : Txt K w mg C d es n) (mz : MkAt C Hz x asl amet aro ns M rz fr) (hl : rz.length ≤ 900) (h0 : σ[0]? = some (some (.int i))) (h4 : σ[4]? = some (some (.ref x)))
    (fin : ∀ tl p H', Tail rz tl → H' p = some (.tup [.int i, .int (ns.length : Nat), .ref aro]) → MkAt C H' x asl amet aro ns M (rz ++ tl) fr → Kp [aro] Hz H' → D.rt (.ref p) H') :
    tSeq (tIfS (tOr (tTest (tOp rEq (uLen (tFld K (tVar 4) "rows")) (tC (V.int 0)))) (tTest (tOp rNe (uT (uLast HO.lst (tFld K (tVar 4) "rows")) 0) (tC (V.str "jump")))))
      (tDrop (uApp (tFld K (tVar 4) "rows") (uTup (tCons (tC (V.str "back")) tNil)))) tNext)
      (tRet (uTup (tCons (tVar 0) (tCons (uLenD (tFld K (tVar 4) "slots")) (tCons (tFld K (tVar 4) "rows") tNil))))) D σ Hz := by
  have c1 := tx.cl; have c2 := tx.nSl; have c4 := tx.nRo
  obtain ⟨dx, ob⟩ := mz.ob
  obtain ⟨xs, hro, hrv⟩ := mz.ro
  have hlen := hrv.len
  have hlen2 : xs.length ≤ 100000 := by omega
  have hsl := slkF_len ns 0
  have addb : ∀ (Q : Hp → Prop), (∀ p H1 H2, Kp [] Hz H1 → H1 p = some (.tup ((Row.back).ks.map kV)) → Kp [aro] H1 H2 → H2 aro = some (.lst (xs ++ [.ref p])) → Q H2) → (tDrop (uApp (tFld K (tVar 4) "rows") (uTup (tCons (tC (V.str "back")) tNil)))) { D with nx := fun _ H2 => Q H2 } σ Hz := by
    intro Q hq
    walk_at "go"
    intro p H1 n1 k1 h1
    walk_at "go"
    intro H2 k2 h2
    exact hq p H1 H2 k1 h1 k2 h2
  have retb : ∀ (tl : List Row) (H2 : Hp), Tail rz tl → MkAt C H2 x asl amet aro ns M (rz ++ tl) fr → Kp [aro] Hz H2 → (tRet (uTup (tCons (tVar 0) (tCons (uLenD (tFld K (tVar 4) "slots")) (tCons (tFld K (tVar 4) "rows") tNil))))) D σ H2 := by
    intro tl H2 ht m2 k2
    obtain ⟨dx2, ob2⟩ := m2.ob
    have hsl2 := m2.sl
    walk_at "go"
    intro p H3 n3 k3 h3
    rw [hsl] at h3
    exact fin tl p H3 ht h3 (m2.keep k3) (k2.trans (k3.any _))
  have back : Tail rz [.back] → (tDrop (uApp (tFld K (tVar 4) "rows") (uTup (tCons (tC (V.str "back")) tNil)))) { D with nx := fun σ' H2 => (tRet (uTup (tCons (tVar 0) (tCons (uLenD (tFld K (tVar 4) "slots")) (tCons (tFld K (tVar 4) "rows") tNil))))) D σ H2 } σ Hz := fun ht =>
    addb _ fun p H1 H2 k1 h1 k2 h2 => retb [.back] H2 ht ((mz.keep k1).app (r := .back) (k1.obj0 hro) h1 k2 h2) ((k1.any _).trans k2)
  obtain ⟨tl, ht, htl⟩ := tail_ex rz
  rcases id ht with ⟨e, et⟩ | ⟨r0, r, e, et⟩
  · subst e et
    have ex := hrv.nil
    subst ex
    walk_at "go"
    intro p H1 n1 k1 h1
    walk_at "go"
    intro H2 k2 h2
    exact retb [.back] H2 ht ((mz.keep k1).app (r := .back) (k1.obj0 hro) h1 k2 h2) ((k1.any _).trans k2)
  · have hpos : ¬ (xs.length = 0) := by rw [hlen, e]; simp
    rw [e] at hrv
    obtain ⟨xs0, v, e1, pr, e2, e3⟩ := hrv.last
    subst e2
    obtain ⟨more, em⟩ := r.ks_head
    rw [em] at e3
    have e3 : Hz pr = some (.tup (.str r.word :: more.map kV)) := e3
    rw [e1] at hro
    walk_at "go"
    refine itF (by rw [decide_eq_false_iff_not]; intro z; injection z with z; exact hpos (by rw [e1]; omega)) ?_
    refine ⟨_, h4, x, C, dx, _, _, rfl, ob, c1, c4, mf_ro _ _ _ _, aro, xs0, _, rfl, hro, pr, _, _, rfl, e3, rfl, rfl, _, rfl, ?_⟩
    rcases et with ⟨ew, et⟩ | ⟨ew, et⟩
    · subst et
      refine itF (by rw [ew]; decide +kernel) ?_
      exact retb [] Hz ht (by simpa using mz) (Kp.refl _ _)
    · subst et
      refine itT (by rw [Bool.not_eq_true', decide_eq_false_iff_not]; intro z; injection z with z; exact ew z) ?_
      exact back ht
abbrev s_rule_code : Stmt := (topS 9)
abbrev N_rule_code : List Str := ["number", "rule", "head", "goals", "maker", "goal"]
theorem sc_rule_code : FnScope N_rule_code ["number", "rule"] (defScope s_rule_code) := ⟨rfl, rfl, rfl, by decide +kernel, rfl, by decide +kernel, by decide +kernel⟩

def spRuleCode : Sp := fun vs H Q _ => ∃ (i : Int) (v : V) (r : Rule), vs = [.int i, v] ∧ RA H v r ∧ ROk r ∧ ∀ u H', (∀ B, (∀ b ∈ B, H b ≠ none) → CodeAt H' B u i r) → Kp [] H H' → Q u H'
theorem ok_rule_code (tx : Txt K w mg C d es n) {j : Nat} (hj : j + 1 ≤ k) (mk_Maker : MkDef P w K mg base "Maker" C j ["self", "terms"] (spMInit C)) (m_head : MDef P w K mg base C "head" k ["self", "term"] (spHead C 100)) (m_begin : MDef P w K mg base C "begin" k ["self"] (spBegin C)) (m_goal : MDef P w K mg base C "goal" k ["self", "term", "word"] (spMGoal C 100)) (D : DefAt K mg "rule_code" s_rule_code ["number", "rule"]) : Def P w K mg base "rule_code" (k + 1) ["number", "rule"] spRuleCode := by
  refine D.ok sc_rule_code (fun vs H Q E h => ?_) (fun f cdv A outer s H vs Q E hr h => ?_)
  · obtain ⟨i, v, r, rfl, _⟩ := h; rfl
  · obtain ⟨i, v, ⟨hd, gs⟩, rfl, hR, hok, h⟩ := h
    have hu := hu_of hr
    have c1 := tx.cl; have c2 := tx.nSl; have c3 := tx.nMe; have c4 := tx.nRo; have c5 := tx.nFr
    obtain ⟨a, hv, b, gvs, rfl, ha, hb, hh, hg⟩ := hR
    refine ⟨_, (pss_cons (ps_asg (pv 1) (pg_tup rfl (pgs_cons (pg_name (i := 2) sc_rule_code.nd rfl (by first | exact .inl rfl | exact .inr rfl)) (pgs_cons (pg_name (i := 3) sc_rule_code.nd rfl (by first | exact .inl rfl | exact .inr rfl)) pgs_nil))))
      (pss_cons (ps_set (i := 4) sc_rule_code.nd rfl (by first | exact .inl rfl | exact .inr rfl) (pe_mk mk_Maker (hr.mono (by omega)) (pa_cons (pe_cat (pe_lstN (pa_cons (pv 2) pa_nil)) (pe_list (by rfl) tx.list_ (pv 3))) pa_nil)))
      (pss_cons (ps_expr (pe_mt m_head tx.cl (pv 4) (hr.mono (by omega)) (pa_cons (pv 2) pa_nil)))
      (pss_cons (ps_if (pt_cmpR op_gt (pe_len (by rfl) tx.len_ (pv 3)) pe_int (nomark _)) (pss_cons (ps_expr (pe_mt0 m_begin tx.cl (pv 4) (hr.mono (by omega))))
      (pss_cons (ps_forT PassesOwn.never rfl (pe_slT (pv 3) po_none (po_some (pe_un un_neg pe_int))) (pg_name (i := 5) sc_rule_code.nd rfl (by first | exact .inl rfl | exact .inr rfl)) (pss_one (ps_expr (pe_mt m_goal tx.cl (pv 4) (hr.mono (by omega)) (pa_cons (pv 5) (pa_cons pe_str pa_nil))))))
      (pss_one (ps_expr (pe_mt m_goal tx.cl (pv 4) (hr.mono (by omega)) (pa_cons (pe_ixt (pv 3)) (pa_cons pe_str pa_nil))))))) pss_nil)
      (pss_cons (ps_if (PW.pt (pw_or (pt_cmpR op_eq (pe_len (by rfl) tx.len_ (pe_fld (pv 4) rfl)) pe_int (nomark _)) (pw_or1 (pt_cmpR op_ne (pe_tc (n := 0) (pe_ixl (pe_fld (pv 4) rfl))) pe_str (nomark _))))) (pss_one (ps_expr (pe_app (pe_fld (pv 4) rfl) (pe_tupN (pa_cons pe_str pa_nil))))) pss_nil)
      (pss_one (ps_ret (pe_tupN (pa_cons (pv 0) (pa_cons (pe_lenD (by rfl) tx.len_ (pe_fld (pv 4) rfl)) (pa_cons (pe_fld (pv 4) rfl) pa_nil))))))))))), ?_⟩
    refine ⟨_, rfl, gtup2 ha ?_⟩
    obtain ⟨⟨s, ks, hs, hsw⟩, hdok, hdsz, hgl, hgk, hgo, hgz⟩ := hok
    simp only at hs hdok hdsz hgl hgk hgo hgz hh hg
    subst hs
    have hgl2 := hg.len
    have hgsz : ∀ l : List GT.T, (∀ g ∈ l, g.size ≤ 24) → sizes l ≤ 24 * l.length := by
      intro l
      induction l with
      | nil => intro _; simp [sizes]
      | cons g l ih =>
        intro hz
        have e1 := hz g List.mem_cons_self
        have e2 := ih fun z hm => hz z (List.mem_cons_of_mem _ hm)
        simp only [sizes, List.length_cons]; omega
    have hgs := hgsz gs hgz
    simp only [GT.T.size] at hdsz
    have hcl : [hv].length + gvs.length ≤ 100000 := by simp; omega
    walk_at "go"
    intro p1 H1 n1 k1 h1
    walk_at "go"
    intro p2 H2 n2 k2 h2
    have h12 := k2.obj0 h1
    walk_at "go"
    intro p3 H3 n3 k3 h3
    walk_at "go"
    intro x dx H4 n4 k4 h4
    have k04 : Kp [] H H4 := by walk_at "kp"
    have hp34 : H4 p3 = some (.lst (hv :: gvs)) := k4.obj0 h3
    have hts4 : TAs .str H4 (hv :: gvs) (.app s ks :: gs) := ⟨hh.kp k04, hg.kp k04⟩
    refine ⟨x, p3, dx, _, _, rfl, h4, hp34, hts4, by simp only [sizes, GT.T.size]; omega, fun asl amet aro H5 m5 f1 f2 f3 k5 => ⟨rfl, ?_⟩⟩
    obtain ⟨ns, hns⟩ : ∃ ns, ns = names (occs ks ++ occs gs) := ⟨_, rfl⟩
    have hns2 : names (occs (.app s ks :: gs)) = ns := by rw [hns]; rfl
    rw [hns2] at m5
    have hnl : ns.length ≤ 200 := by
      have e1 := names_len_le (occs ks ++ occs gs)
      have e2 := occs_le_sizes ks
      have e3 := occs_le_sizes gs
      rw [hns]; rw [List.length_append] at e1; omega
    obtain ⟨dx5, ob5⟩ := m5.ob
    have k05 : Kp [x] H H5 := (k04.any [x]).trans k5
    have ht5 : TA .str H5 hv (.app s ks) := hh.kp k05
    refine ⟨_, rfl, x, _, _, rfl, ob5, rfl, _, rfl, x, asl, amet, aro, ns, _, [], 0, hv, s, ks, rfl, m5, ht5, by omega, fun y hy => ?_, by simp; omega, fun H6 rs6 M6 m6 w6 t6 k6 => ?_⟩
    · rw [hns]; exact (mem_names _ _).mpr (List.mem_append.mpr (.inl hy))
    · have hF : ∀ q, M6 q ↔ q < (names (occs ks)).length := fun q => by
        rw [w6, hns, ← slots_first (occs ks) (occs gs) q]; simp
      simp only [Nat.zero_add, List.nil_append] at t6 m6
      have nH3 : H3 x = none := n4
      have hfx : H x = none := ((k1.trans k2).trans k3).fr _ nH3
      have k06 : Kp [x, amet, aro] H H6 := (k05.wk (by simp)).trans k6
      have f2' := k04.fr _ f2
      have f3' := k04.fr _ f3
      have hfin : ∀ (rz tl : List Row) (p : Addr) (M : Nat → Prop) (fr : Nat) (Hz H' : Hp), RuleRows (.app s ks, gs) (rz ++ tl) → H' p = some (.tup [.int i, .int (ns.length : Nat), .ref aro]) → MkAt C H' x asl amet aro ns M (rz ++ tl) fr → Kp [x, amet, aro] H Hz → Kp [aro] Hz H' → Q (.ref p) H' := by
        intro rz tl p M fr Hz H' hrr hp hm kz kz2
        obtain ⟨xs, hro, hrv⟩ := hm.ro
        refine h (.ref p) H' (fun B hB => ⟨p, aro, xs, rz ++ tl, rfl, ?_, hro, hrv, hrr, fun hin => hB _ hin f3'⟩) ((kz.trans (kz2.wk (by simp))).sub fun c hc => ?_)
        · show H' p = some (.tup [.int i, .int ((names (occs (.app s ks :: gs))).length : Nat), .ref aro])
          rw [hns2]; exact hp
        · right
          simp only [List.mem_cons, List.not_mem_nil, or_false] at hc
          rcases hc with rfl | rfl | rfl
          · exact hfx
          · exact f2'
          · exact f3'
      have hb6 : H6 b = some (.tup gvs) := k06.tup hb
      have hg6 : TAs .str H6 gvs gs := hg.kp k06
      have t6l := t6.len
      obtain ⟨dx6, ob6⟩ := m6.ob
      rcases List.eq_nil_or_concat gs with eg | ⟨gs0, g, eg⟩
      · subst eg
        have ev : gvs = [] := by
          cases gvs with
          | nil => rfl
          | cons v r => simp at hgl2
        subst ev
        have ens : ns = names (occs ks) := by rw [hns]; simp [occs]
        refine ⟨_, rfl, b, [], rfl, .inr hb6, _, _, rfl, rfl, _, rfl, itF (by decide) ?_⟩
        refine rc_end (σ := [some (.int i), some (.ref a), some hv, some (.ref b), some (.ref x), none]) (D := { nx := fun _ H' => Q .non H', rt := Q }) tx m6 (by omega) rfl rfl fun tl p H' ht hp hm kz => hfin rs6 tl p M6 _ H6 H' ?_ hp hm k06 kz
        rw [ens] at t6
        exact .fact t6 ht
      · rw [List.concat_eq_append] at eg
        subst eg
        obtain ⟨_, _, gv0, gv, eg1, eg2, hg0, hgv⟩ := hg6.last (by simp)
        obtain ⟨eg3, eg4⟩ := List.append_inj' eg1 rfl
        injection eg4 with eg4
        subst eg2
        rw [← eg3] at hg0
        rw [← eg4] at hgv
        have hpos : decide ((0 : Int) < (((gv0 ++ [gv]).length : Nat) : Int)) = true := by
          rw [decide_eq_true_eq, List.length_append, List.length_singleton]; omega
        obtain ⟨F, eF⟩ : ∃ F, F = (names (occs ks)).length := ⟨_, rfl⟩
        rw [← eF] at hF
        have gin : ∀ g' ∈ gs0 ++ [g], ∀ y ∈ g'.occ, y ∈ ns := by
          intro g' hg' y hy
          rw [hns]
          refine (mem_names _ _).mpr (List.mem_append.mpr (.inr ?_))
          have : ∀ l : List GT.T, g' ∈ l → y ∈ occs l := by
            intro l
            induction l with
            | nil => intro z; cases z
            | cons c l ih =>
              intro z
              rcases List.mem_cons.mp z with rfl | z
              · exact List.mem_append.mpr (.inl hy)
              · exact List.mem_append.mpr (.inr (ih z))
          exact this _ hg'
        have hgsz0 : sizes gs0 + g.size = sizes (gs0 ++ [g]) := by rw [sizes_append]; simp [sizes]
        have hgm := hgk g (by simp)
        have hgl3 : (gs0 ++ [g]).length ≤ 6 := hgl
        walk_at "go"
        refine itT hpos ?_
        refine ⟨_, rfl, x, _, _, rfl, ob6, rfl, x, asl, amet, aro, ns, M6, rs6, _, F, rfl, m6, hF, by omega, fun H7 m7 k7 => ?_⟩
        obtain ⟨dx7, ob7⟩ := m7.ob
        have k07 := k06.trans k7
        have hb7 : H7 b = some (.tup (gv0 ++ [gv])) := k07.tup hb
        walk_at "go"
        refine ⟨sIx_init gv0 gv, fun p8 H8 n8 k8 h8 => ?_⟩
        have h8' : H8 p8 = some (.tup gv0) := h8.trans (congrArg (fun l => some (HO.tup l)) (cutV_init gv0 gv))
        have k08 := k07.trans (k8.any [x, amet, aro])
        have hN : ((List.range' F (ns.length - F)).map Row.new).length ≤ 200 := by rw [List.length_map, List.length_range']; omega
        refine ⟨p8, gv0, rfl, ⟨⟨fun q σ H' => ∃ rG fr o5, MkAt C H' x asl amet aro ns M6 (rs6 ++ .frame :: (List.range' F (ns.length - F)).map Row.new ++ rG) fr ∧ GRs (sl ns) (gs0.take q) rG ∧ Kp [x, amet, aro] H8 H' ∧ σ = [some (.int i), some (.ref a), some hv, some (.ref b), some (.ref x), o5],
          ⟨[], _, _, by rw [List.append_nil]; exact m7.keep k8, rfl, Kp.refl _ _, rfl⟩, ?_, ?_, ?_⟩⟩⟩
        · rintro q σ H' ⟨rG, fr, o5, e1, e2, e3, rfl⟩
          exact e3.tup h8'
        · rintro q y σ H9 hy ⟨rG, fr, o5, e1, e2, e3, rfl⟩
          obtain ⟨t, ht1, ht2⟩ := hg0.get hy
          have hmem := List.mem_of_getElem? ht1
          have hmem2 : t ∈ gs0 ++ [g] := List.mem_append.mpr (.inl hmem)
          have hs1 := sizes_take ht1
          have e2l := e2.len
          obtain ⟨dx9, ob9⟩ := e1.ob
          have k69 : Kp [x, amet, aro] H6 H9 := (k7.trans (k8.any _)).trans e3
          refine ⟨_, rfl, x, _, _, rfl, ob9, rfl, _, rfl, x, asl, amet, aro, ns, M6, _, fr, y, t, false, rfl, e1, ht2.kp k69, hgk t hmem2, ?_, gin t hmem2, ?_, fun H10 r10 fr10 m10 g10 k10 => ?_⟩
          · have := hgz t hmem2; omega
          · have := hgz t hmem2
            simp only [List.length_append, List.length_cons]; omega
          · refine ⟨rG ++ r10, fr10, _, by rw [← List.append_assoc]; exact m10, ?_, e3.trans k10, rfl⟩
            rw [take_succ ht1]
            exact e2.snoc g10
        · rintro σ H9 ⟨rG, fr, o5, e1, e2, e3, rfl⟩
          rw [hg0.len, List.take_length] at e2
          obtain ⟨dx9, ob9⟩ := e1.ob
          have e2l := e2.len
          have k69 : Kp [x, amet, aro] H6 H9 := (k7.trans (k8.any _)).trans e3
          have hb9 : H9 b = some (.tup (gv0 ++ [gv])) := k69.tup hb6
          have hmg := hgz g (by simp)
          refine ⟨_, rfl, x, _, _, rfl, ob9, rfl, _, rfl, b, gv0, gv, rfl, hb9, x, asl, amet, aro, ns, M6, _, fr, gv, g, true, rfl, e1, hgv.kp k69, hgm, by omega, gin g (by simp), ?_, fun H10 r10 fr10 m10 g10 k10 => ?_⟩
          · simp only [List.length_append, List.length_cons]; omega
          · have g10l := g10.len
            have k010 : Kp [x, amet, aro] H H10 := (k06.trans k69).trans k10
            refine rc_end (σ := [some (.int i), some (.ref a), some hv, some (.ref b), some (.ref x), o5]) (D := { nx := fun _ H' => Q .non H', rt := Q }) tx m10 (by simp only [List.length_append, List.length_cons]; omega) rfl rfl fun tl p H' ht hp hm kz => hfin _ tl p M6 _ H10 H' ?_ hp hm k010 kz
            subst eF
            exact .rule hns t6 e2 g10 ht
end
end GT
/-! GtU: switch_of. -/
namespace GT
open PySem L2 GL PyProof.Rows RT
/-! tactics: a fact of the heap by what was kept; the reading's small steps -/
local macro_rules | `(tactic| walk_at "hp") => `(tactic| first | assumption | (refine Kp.tup (by assumption) ?_; walk_at "hp") | (refine Kp.obj0 (by assumption) ?_; walk_at "hp") | (refine Kp.obj1 (by assumption) ?_ (by first | assumption | (apply Ne.symm; assumption)); walk_at "hp"))
local macro_rules | `(tactic| walk_at "go") => `(tactic| repeat (first | (refine And.intro ?_ ?_; (first | rfl | walk_at "hp" | decide | (refine Or.inl ?_; walk_at "hp") | (refine Or.inr ?_; walk_at "hp") | (refine SqL.of ?_; walk_at "hp") | exact Nat.le_of_ble_eq_true rfl | exact kvS _ | exact kvI _ | exact cmulL rfl | exact cmulR rfl | exact cpw rfl | exact cdv rfl | omega | (dsimp only; first | decide | omega))) | apply Exists.intro))
local macro_rules | `(tactic| walk_at "kp") => `(tactic| first | assumption | exact Kp.refl _ _ | (refine Kp.trans ?_ (Kp.wk (by assumption) (by simp)); walk_at "kp"))
local macro_rules | `(tactic| walk_at "nn") => `(tactic| first | assumption | (refine Kp.fr (by assumption) _ ?_; walk_at "nn"))

/-! ### dicts by a function over their keys -/
section
variable {κ : Type} [DecidableEq κ]
def adg (l : List κ) (x : κ) : List κ := if x ∈ l then l else l ++ [x]
theorem mem_adg (l : List κ) (x y : κ) : y ∈ adg l x ↔ y ∈ l ∨ y = x := by
  unfold adg
  split
  · rename_i h
    constructor
    · exact .inl
    · rintro (h' | rfl)
      · exact h'
      · exact h
  · simp
theorem nodup_adg {l : List κ} (h : l.Nodup) (x : κ) : (adg l x).Nodup := by
  unfold adg
  split
  · exact h
  · rename_i hx
    refine List.nodup_append.mpr ⟨h, by simp, ?_⟩
    intro a ha b hb e
    rw [List.mem_singleton] at hb
    subst hb; subst e
    exact hx ha
def mif {α : Type} (l : List κ) (x : κ) (a b : α) : α := if x ∈ l then a else b
theorem mif_pos {α : Type} {l : List κ} {x : κ} {a b : α} (h : x ∈ l) : mif l x a b = a := by unfold mif; rw [if_pos h]
theorem mif_neg {α : Type} {l : List κ} {x : κ} {a b : α} (h : ¬ x ∈ l) : mif l x a b = b := by unfold mif; rw [if_neg h]
theorem nodup_take {l : List κ} (h : l.Nodup) {j : Nat} {k : κ} (hk : l[j]? = some k) : k ∉ l.take j := by
  intro hm
  have e : l.take j ++ l.drop j = l := List.take_append_drop j l
  rw [← e] at h
  have hd : k ∈ l.drop j := List.mem_of_getElem? (i := 0) (by rw [List.getElem?_drop]; simpa using hk)
  exact (List.nodup_append.mp h).2.2 k hm k hd rfl
theorem len_adg (l : List κ) (x : κ) : (adg l x).length ≤ l.length + 1 := by unfold adg; split <;> simp
theorem valV_mapF (F : κ → V) (x : κ) : ∀ l : List κ, valV (l.map fun k => (k, F k)) x = if x ∈ l then some (F x) else none
  | [] => rfl
  | y :: r => by
    rw [List.map_cons]
    by_cases e : y = x
    · subst e
      rw [valV_pos (p := (y, F y)) rfl, if_pos List.mem_cons_self]
    · rw [valV_neg (p := (y, F y)) e, valV_mapF F x r]
      by_cases h : x ∈ r
      · rw [if_pos h, if_pos (List.mem_cons_of_mem _ h)]
      · rw [if_neg h, if_neg]
        intro z
        rcases List.mem_cons.mp z with z | z
        · exact e z.symm
        · exact h z
theorem putK_mapF (F : κ → V) (x : κ) (v : V) (l : List κ) : putK (l.map fun k => (k, F k)) x v = (adg l x).map fun k => (k, if k = x then v else F k) := by
  unfold adg
  by_cases h : x ∈ l
  · rw [if_pos h]
    unfold putK
    rw [valV_any, valV_mapF F x l, if_pos h]
    have e1 : (some (F x)).isSome = true := rfl
    rw [if_pos e1, List.map_map]
    refine List.map_congr_left fun y _ => ?_
    show (if y = x then (y, v) else (y, F y)) = (y, if y = x then v else F y)
    split <;> rfl
  · rw [if_neg h, putK_new _ (by rw [valV_mapF F x l, if_neg h]), List.map_append]
    congr 1
    · refine List.map_congr_left fun y hy => ?_
      have : y ≠ x := fun e => h (e ▸ hy)
      rw [if_neg this]
    · simp
/-! ### bits -/
def wtF (p : Option κ → Bool) : Nat → List (Option κ) → Nat
  | _, [] => 0
  | i, o :: r => (if p o then 2 ^ i else 0) + wtF p (i + 1) r
abbrev wt (p : Option κ → Bool) (os : List (Option κ)) : Nat := wtF p 0 os
theorem wtF_snoc (p : Option κ → Bool) (o : Option κ) : ∀ (os : List (Option κ)) (i : Nat), wtF p i (os ++ [o]) = wtF p i os + (if p o then 2 ^ (i + os.length) else 0)
  | [], i => by simp [wtF]
  | a :: r, i => by
    show (if p a then 2 ^ i else 0) + wtF p (i + 1) (r ++ [o]) = (if p a then 2 ^ i else 0) + wtF p (i + 1) r + _
    rw [wtF_snoc p o r (i + 1), ← Nat.add_assoc]
    have e : i + 1 + r.length = i + (a :: r).length := by simp; omega
    rw [e]
theorem wt_snoc (p : Option κ → Bool) (o : Option κ) (os : List (Option κ)) : wt p (os ++ [o]) = wt p os + (if p o then 2 ^ os.length else 0) := by
  unfold wt; rw [wtF_snoc, Nat.zero_add]
theorem wt_lt (p : Option κ → Bool) (os : List (Option κ)) : wt p os < 2 ^ os.length := by
  have : ∀ n (os : List (Option κ)), os.length = n → wt p os < 2 ^ os.length := by
    intro n
    induction n with
    | zero =>
      intro os h
      have e : os = [] := List.eq_nil_of_length_eq_zero h
      subst e; simp [wtF]
    | succ n ih =>
      intro os h
      rcases List.eq_nil_or_concat os with e | ⟨r, o, e⟩
      · subst e; simp at h
      · rw [List.concat_eq_append] at e
        subst e
        rw [List.length_append, List.length_singleton] at h ⊢
        have := ih r (by omega)
        rw [wt_snoc, Nat.pow_succ]
        split <;> omega
  exact this _ os rfl
theorem wt_congr {p q : Option κ → Bool} : ∀ (os : List (Option κ)) (i : Nat), (∀ o ∈ os, p o = q o) → wtF p i os = wtF q i os
  | [], _, _ => rfl
  | o :: r, i, h => by
    unfold wtF
    rw [h o List.mem_cons_self, wt_congr r (i + 1) fun z hz => h z (List.mem_cons_of_mem _ hz)]
theorem wt_true (os : List (Option κ)) : wt (fun _ => true) os + 1 = 2 ^ os.length := by
  have : ∀ n (os : List (Option κ)), os.length = n → wt (fun _ => true) os + 1 = 2 ^ os.length := by
    intro n
    induction n with
    | zero =>
      intro os h
      have e : os = [] := List.eq_nil_of_length_eq_zero h
      subst e; simp [wtF]
    | succ n ih =>
      intro os h
      rcases List.eq_nil_or_concat os with e | ⟨r, o, e⟩
      · subst e; simp at h
      · rw [List.concat_eq_append] at e
        subst e
        rw [List.length_append, List.length_singleton] at h ⊢
        have := ih r (by omega)
        rw [wt_snoc, Nat.pow_succ, if_pos rfl]
        omega
  exact this _ os rfl
end
theorem bor_new {x m : Nat} (h : x < 2 ^ m) : Builtin.bitOr (x : Int) (2 ^ m : Int) = ((x + 2 ^ m : Nat) : Int) := by
  rw [bitOr_comm]
  have := or_low (q := 1) (r := (x : Int)) (k := m) (by decide) (by omega) (by exact_mod_cast h)
  rw [Int.one_mul] at this
  rw [this, Nat.add_comm x, Int.natCast_add, Int.natCast_pow]
  rfl
/-- a head's key -/
def kOf : GT.T → Option (List L2.Key)
  | .app _ (.num n :: _) => some [.inr "num", .inl n]
  | .app _ (.app g m :: _) => some [.inr "app", .inr g, .inl (m.length : Nat)]
  | _ => none
/-- the first argument's key -/
def kOf1 : GT.T → Option (List L2.Key)
  | .num n => some [.inr "num", .inl n]
  | .app g m => some [.inr "app", .inr g, .inl (m.length : Nat)]
  | _ => none
def IsKey (H : Hp) (v : V) : Option (List L2.Key) → Prop
  | none => v = .non
  | some k => ∃ a, v = .ref a ∧ H a = some (.tup (k.map kV))
/-- the keys in the order in which they first stand -/
def ksOf (os : List (Option (List L2.Key))) : List (List L2.Key) := os.foldl (fun l o => match o with | some k => adg l k | none => l) []
theorem ksOf_snoc (os : List (Option (List L2.Key))) (o : Option (List L2.Key)) : ksOf (os ++ [o]) = match o with | some k => adg (ksOf os) k | none => ksOf os := by
  unfold ksOf; rw [List.foldl_append]; rfl
theorem ksOf_spec : ∀ n (os : List (Option (List L2.Key))), os.length = n → (∀ k, k ∈ ksOf os ↔ some k ∈ os) ∧ (ksOf os).Nodup ∧ (ksOf os).length ≤ os.length := by
  intro n
  induction n with
  | zero =>
    intro os h
    have e : os = [] := List.eq_nil_of_length_eq_zero h
    subst e; simp [ksOf]
  | succ n ih =>
    intro os h
    rcases List.eq_nil_or_concat os with e | ⟨r, o, e⟩
    · subst e; simp at h
    · rw [List.concat_eq_append] at e
      subst e
      rw [List.length_append, List.length_singleton] at h
      obtain ⟨i1, i2, i3⟩ := ih r (by omega)
      rw [ksOf_snoc, List.length_append, List.length_singleton]
      cases o with
      | none => exact ⟨fun k => by simp [i1 k], i2, by show (ksOf r).length ≤ _; omega⟩
      | some q =>
        refine ⟨fun k => ?_, nodup_adg i2 q, ?_⟩
        · show k ∈ adg (ksOf r) q ↔ _
          rw [mem_adg, i1 k]; simp
        · have := len_adg (ksOf r) q
          show (adg (ksOf r) q).length ≤ _
          omega
theorem mem_ksOf (os : List (Option (List L2.Key))) (k : List L2.Key) : k ∈ ksOf os ↔ some k ∈ os := (ksOf_spec _ os rfl).1 k
theorem nodup_ksOf (os : List (Option (List L2.Key))) : (ksOf os).Nodup := (ksOf_spec _ os rfl).2.1
theorem len_ksOf (os : List (Option (List L2.Key))) : (ksOf os).length ≤ os.length := (ksOf_spec _ os rfl).2.2
/-- the bits of a key -/
def pk (k : List L2.Key) (o : Option (List L2.Key)) : Bool := o.isNone || decide (o = some k)
def pn (o : Option (List L2.Key)) : Bool := o.isNone
abbrev swD (os : List (Option (List L2.Key))) (ks : List (List L2.Key)) : List (List L2.Key × V) := ks.map fun k => (k, .int ((wt (pk k) os : Nat) : Int))
theorem wt_pn_new {os : List (Option (List L2.Key))} {k : List L2.Key} (h : k ∉ ksOf os) : wt (pk k) os = wt pn os := by
  refine wt_congr os 0 fun o ho => ?_
  unfold pk pn
  have : o ≠ some k := fun e => h ((mem_ksOf os k).mpr (e ▸ ho))
  rw [decide_eq_false this, Bool.or_false]
section
variable {P : Program} {w : World} {K : PySem.W.Frag} {mg : Str → Option Value} {base : Heap} {C d : Addr} {es : Array DictEntry} {n : Nat} {k : Nat}
abbrev s_key_of : Stmt := (topS 3)
abbrev N_key_of : List Str := ["term"]
theorem sc_key_of : FnScope N_key_of ["term"] (defScope s_key_of) := ⟨rfl, rfl, rfl, by decide +kernel, rfl, by decide +kernel, by decide +kernel⟩

def spKeyOf : Sp := fun vs H Q _ => ∃ (v : V) (t : GT.T), vs = [v] ∧ TA .str H v t ∧ ∀ u H', IsKey H' u (kOf1 t) → Kp [] H H' → Q u H'
theorem ok_key_of (tx : Txt K w mg C d es n) (D : DefAt K mg "key_of" s_key_of ["term"]) : Def P w K mg base "key_of" (k + 1) ["term"] spKeyOf := by
  refine D.ok sc_key_of (fun vs H Q E h => ?_) (fun f cdv A outer s H vs Q E hr h => ?_)
  · obtain ⟨v, t, rfl, _⟩ := h; rfl
  · obtain ⟨v, t, rfl, ht, h⟩ := h
    have hu := hu_of hr
    refine ⟨_, (pss_cons (ps_if (pt_cmpR op_eq (pe_tc (n := 0) (pv 0)) pe_str (nomark _)) (pss_one (ps_ret pe_non)) pss_nil)
      (pss_cons (ps_if (pt_cmpR op_eq (pe_tc (n := 0) (pv 0)) pe_str (nomark _)) (pss_one (ps_ret (pe_tupN (pa_cons pe_str (pa_cons (pe_tc (n := 1) (pv 0)) pa_nil))))) pss_nil)
      (pss_one (ps_ret (pe_tupN (pa_cons pe_str (pa_cons (pe_tc (n := 1) (pv 0)) (pa_cons (pe_len (by rfl) tx.len_ (pe_tc (n := 2) (pv 0))) pa_nil)))))))), ?_⟩
    cases t with
    | any x =>
      obtain ⟨a, rfl, ha⟩ := ht
      walk_at "go"
      exact h _ _ rfl (Kp.refl _ _)
    | num x =>
      obtain ⟨a, rfl, ha⟩ := ht
      walk_at "go"
      intro p H1 n1 k1 h1
      exact h _ _ ⟨p, rfl, h1⟩ k1
    | app x ks =>
      obtain ⟨a, b, vk, rfl, ha, hb, hk⟩ := ht
      have hkl := hk.len
      walk_at "go"
      intro p H1 n1 k1 h1
      rw [hkl] at h1
      exact h _ _ ⟨p, rfl, h1⟩ k1
abbrev s_first_key : Stmt := (topS 4)
abbrev N_first_key : List Str := ["head"]
theorem sc_first_key : FnScope N_first_key ["head"] (defScope s_first_key) := ⟨rfl, rfl, rfl, by decide +kernel, rfl, by decide +kernel, by decide +kernel⟩

def spFirstKey : Sp := fun vs H Q _ => ∃ (v : V) (s : Str) (ks : List GT.T), vs = [v] ∧ TA .str H v (.app s ks) ∧ ∀ u H', IsKey H' u (kOf (.app s ks)) → Kp [] H H' → Q u H'
theorem ok_first_key (tx : Txt K w mg C d es n) (d_key_of : Def P w K mg base "key_of" k ["term"] spKeyOf) (D : DefAt K mg "first_key" s_first_key ["head"]) : Def P w K mg base "first_key" (k + 1) ["head"] spFirstKey := by
  refine D.ok sc_first_key (fun vs H Q E h => ?_) (fun f cdv A outer s H vs Q E hr h => ?_)
  · obtain ⟨v, s, ks, rfl, _⟩ := h; rfl
  · obtain ⟨v, s, ks, rfl, ht, h⟩ := h
    have hu := hu_of hr
    refine ⟨_, (pss_cons (ps_if (pt_cmpR op_eq (pe_len (by rfl) tx.len_ (pe_tc (n := 2) (pv 0))) pe_int (nomark _)) (pss_one (ps_ret pe_non)) pss_nil)
      (pss_one (ps_ret (pe_cl d_key_of (hr.mono (by omega)) (pa_cons (pe_tc (n := 0) (pe_tc (n := 2) (pv 0))) pa_nil))))), ?_⟩
    obtain ⟨a, b, vk, rfl, ha, hb, hk⟩ := ht
    cases ks with
    | nil =>
      have hkl := hk.len
      have e : vk = [] := List.eq_nil_of_length_eq_zero hkl
      subst e
      walk_at "go"
      exact h _ _ rfl (Kp.refl _ _)
    | cons t r =>
      match vk, hk with
      | v1 :: vr, ⟨h1, h2⟩ =>
      walk_at "go"
      rintro u H1 hk1 k1
      refine h u H1 ?_ k1
      cases t <;> exact hk1
abbrev s_switch_of : Stmt := (topS 5)
abbrev N_switch_of : List Str := ["heads", "keys", "others", "whole", "place", "head", "bit", "key", "known"]
theorem sc_switch_of : FnScope N_switch_of ["heads"] (defScope s_switch_of) := ⟨rfl, rfl, rfl, by decide +kernel, rfl, by decide +kernel, by decide +kernel⟩

/-- a switch at p -/
def SwAt (H : Hp) (B : List Addr) (p : Addr) (os : List (Option (List L2.Key))) : Prop := ∃ q, q ∉ B ∧ H p = some (.tup [.ref q, .int ((wt pn os : Nat) : Int), .int ((wt (fun _ => true) os : Nat) : Int)]) ∧ H q = some (.dT (swD os (ksOf os)))
def spSwitchOf : Sp := fun vs H Q _ => ∃ (a : Addr) (xs : List V) (ts : List GT.T), vs = [.ref a] ∧ H a = some (.lst xs) ∧ TAs .str H xs ts ∧ (∀ t ∈ ts, ∃ s ks, t = .app s ks) ∧ ts.length ≤ 100 ∧
  ∀ p H', (∀ B, (∀ b ∈ B, H b ≠ none) → SwAt H' B p (ts.map kOf)) → Kp [] H H' → Q (.ref p) H'
theorem ok_switch_of (tx : Txt K w mg C d es n) (d_first_key : Def P w K mg base "first_key" k ["head"] spFirstKey) (D : DefAt K mg "switch_of" s_switch_of ["heads"]) : Def P w K mg base "switch_of" (k + 1) ["heads"] spSwitchOf := by
  refine D.ok sc_switch_of (fun vs H Q E h => ?_) (fun f cdv A outer s H vs Q E hr h => ?_)
  · obtain ⟨a, xs, ts, rfl, _⟩ := h; rfl
  · obtain ⟨a, xs, ts, rfl, ha, ht, happ, hl, h⟩ := h
    have hu := hu_of hr
    refine ⟨_, (pss_cons (ps_set (i := 1) sc_switch_of.nd rfl (by first | exact .inl rfl | exact .inr rfl) pe_dnewTN)
      (pss_cons (ps_set (i := 2) sc_switch_of.nd rfl (by first | exact .inl rfl | exact .inr rfl) pe_int)
      (pss_cons (ps_set (i := 3) sc_switch_of.nd rfl (by first | exact .inl rfl | exact .inr rfl) pe_int)
      (pss_cons (ps_forEL PassesOwn.never rfl (by rfl) tx.enumerate_ (pv 0) (pg_name (i := 4) sc_switch_of.nd rfl (by first | exact .inl rfl | exact .inr rfl)) (pg_name (i := 5) sc_switch_of.nd rfl (by first | exact .inl rfl | exact .inr rfl)) (pss_cons (ps_set (i := 6) sc_switch_of.nd rfl (by first | exact .inl rfl | exact .inr rfl) (pe_op op_shl pe_int (pv 4)))
      (pss_cons (ps_set (i := 3) sc_switch_of.nd rfl (by first | exact .inl rfl | exact .inr rfl) (pe_op op_or (pv 3) (pv 6)))
      (pss_cons (ps_set (i := 7) sc_switch_of.nd rfl (by first | exact .inl rfl | exact .inr rfl) (pe_cl d_first_key (hr.mono (by omega)) (pa_cons (pv 5) pa_nil)))
      (pss_one (ps_if (pt_cmpR op_isN (pv 7) pe_non (nomark _)) (pss_cons (ps_set (i := 2) sc_switch_of.nd rfl (by first | exact .inl rfl | exact .inr rfl) (pe_op op_or (pv 2) (pv 6)))
      (pss_one (ps_forL PassesOwn.never rfl (pe_listT rfl (by rfl) tx.list_ (pv 1)) (pg_name (i := 8) sc_switch_of.nd rfl (by first | exact .inl rfl | exact .inr rfl)) (pss_one (ps_putT hu (pv 1) (pv 8) (pe_op op_or (pe_dget hu (pv 1) (pv 8) (fun _ _ => rfl)) (pv 6))))))) (pss_one (ps_putT hu (pv 1) (pv 7) (pe_op op_or (pe_dget2 hu (pv 1) (pv 7) (pv 2) ⟨rfl, rfl, rfl, rfl⟩) (pv 6))))))))))
      (pss_one (ps_ret (pe_tupN (pa_cons (pv 1) (pa_cons (pv 2) (pa_cons (pv 3) pa_nil)))))))))), ?_⟩
    walk_at "go"
    intro q H1 n1 k1 h1
    have naq : a ≠ q := by rintro rfl; rw [ha] at n1; cases n1
    have ha1 := k1.obj0 ha
    walk_at "go"
    refine ⟨⟨fun m σ H' => ∃ o4 o5 o6 o7 o8, H' q = some (.dT (swD ((ts.take m).map kOf) (ksOf ((ts.take m).map kOf)))) ∧ Kp [q] H1 H' ∧
      σ = [some (.ref a), some (.ref q), some (.int ((wt pn ((ts.take m).map kOf) : Nat) : Int)), some (.int ((wt (fun _ => true) ((ts.take m).map kOf) : Nat) : Int)), o4, o5, o6, o7, o8],
      ⟨_, _, _, _, _, h1, Kp.refl _ _, rfl⟩, ?_, ?_, ?_⟩⟩
    · rintro m σ H' ⟨o4, o5, o6, o7, o8, e1, e2, rfl⟩
      exact e2.obj1 ha1 naq
    · rintro m y σ H4 H5 hy ⟨o4, o5, o6, o7, o8, e1, e2, rfl⟩ k5
      obtain ⟨t, ht1, ht2⟩ := ht.get hy
      obtain ⟨s, ks, et⟩ := happ t (List.mem_of_getElem? ht1)
      have hm : m < ts.length := (List.getElem?_eq_some_iff.mp ht1).1
      have kk5 : Kp [q] H H5 := ((k1.any _).trans e2).trans (k5.any _)
      have hq5 := k5.obj0 e1
      obtain ⟨os, eos⟩ : ∃ os, os = (ts.take m).map kOf := ⟨_, rfl⟩
      have hosl : os.length = m := by rw [eos, List.length_map, List.length_take]; omega
      have eos1 : (ts.take (m + 1)).map kOf = os ++ [kOf t] := by rw [take_succ ht1, List.map_append, eos]; rfl
      rw [← eos] at hq5 ⊢
      have hbit : (1 : Int) * 2 ^ ((m : Nat) : Int).toNat = 2 ^ m := by rw [Int.toNat_natCast, Int.one_mul]
      have hb1 : ∀ p : Option (List L2.Key) → Bool, Builtin.bitOr ((wt p os : Nat) : Int) ((1 : Int) * 2 ^ ((m : Nat) : Int).toNat) = ((wt p os + 2 ^ m : Nat) : Int) := fun p => by
        rw [hbit]; exact bor_new (by have := wt_lt p os; rw [hosl] at this; exact this)
      have hwT : wt (fun _ => true) (os ++ [kOf t]) = wt (fun _ => true) os + 2 ^ m := by rw [wt_snoc, if_pos rfl, hosl]
      refine ⟨_, rfl, _, _, rfl, rfl, ⟨by omega, by omega, by decide⟩, _, rfl, _, rfl, _, _, rfl, rfl, _, rfl, y, s, ks, rfl, et ▸ ht2.kp kk5, fun u H6 hk k6 => ?_⟩
      rw [← et] at hk
      have hq6 := k6.obj0 hq5
      refine ⟨_, rfl, rfl, _, rfl, ?_⟩
      cases hkt : kOf t with
      | none =>
        rw [hkt] at hk
        have hk : u = .non := hk
        subst hk
        refine itT (by decide) ?_
        refine ⟨_, rfl, _, rfl, _, _, rfl, rfl, _, rfl, q, _, rfl, hq6, fun bs hbs p H7 n7 k7 h7 => ?_⟩
        have npq : p ≠ q := by rintro rfl; rw [hq6] at n7; cases n7
        have hwN : wt pn (os ++ [none]) = wt pn os + 2 ^ m := by rw [wt_snoc, if_pos (by rfl : pn none = true), hosl]
        have hwK : ∀ k, wt (pk k) (os ++ [none]) = wt (pk k) os + 2 ^ m := fun k => by rw [wt_snoc, if_pos (by rfl : pk k none = true), hosl]
        have hkeys : ∀ j b, bs[j]? = some b → ∃ k : List L2.Key, (ksOf os)[j]? = some k ∧ H6 b = some (.tup (k.map kV)) := fun j b hb => by
          obtain ⟨kv, e1, e2⟩ := GL.pgetR hbs hb
          rw [List.getElem?_map] at e1
          obtain ⟨k, e3, e4⟩ := Option.map_eq_some_iff.mp e1
          subst e4
          exact ⟨k, e3, e2⟩
        have hbl : bs.length = (ksOf os).length := by
          have := hbs.length
          simpa using this.symm
        have hkl := len_ksOf os
        refine ⟨p, bs.map V.ref, rfl, ⟨⟨fun j σ H' => ∃ o8, H' q = some (.dT ((ksOf os).map fun (k : List L2.Key) => (k, V.int ((wt (pk k) (mif ((ksOf os).take j) k (os ++ [none]) os) : Nat) : Int)))) ∧ Kp [q] H7 H' ∧
          σ = [some (.ref a), some (.ref q), some (.int ((wt pn os + 2 ^ m : Nat) : Int)), some (.int ((wt (fun _ => true) os + 2 ^ m : Nat) : Int)), some (.int (m : Nat)), some y, some (.int ((1 : Int) * 2 ^ ((m : Nat) : Int).toNat)), some .non, o8], ?_, ?_, ?_, ?_⟩⟩⟩
        · refine ⟨o8, ?_, Kp.refl _ _, ?_⟩
          · rw [k7.obj0 hq6]
            refine congrArg (fun l => some (HO.dT l)) (List.map_congr_left fun z hz => ?_)
            rw [mif_neg (by simp)]
          · rw [← hb1 pn, ← hb1 fun _ => true]; rfl
        · rintro j σ H' ⟨o8, e1, e2, rfl⟩
          exact e2.obj1 h7 npq
        · rintro j y2 σ H8 hy2 ⟨o8, e1, e2, rfl⟩
          rw [List.getElem?_map] at hy2
          obtain ⟨b, hb3, rfl⟩ := Option.map_eq_some_iff.mp hy2
          obtain ⟨k', hk1, hk2⟩ := hkeys j b hb3
          have hb8 : H8 b = some (.tup (k'.map kV)) := e2.tup (k7.tup hk2)
          have hin := List.mem_of_getElem? hk1
          have hjl : j < (ksOf os).length := (List.getElem?_eq_some_iff.mp hk1).1
          have hnt : k' ∉ (ksOf os).take j := nodup_take (nodup_ksOf os) hk1
          refine ⟨_, rfl, _, rfl, q, .int ((wt (pk k') os : Nat) : Int), rfl, dgT e1 hb8 (by rw [valV_mapF, if_pos hin, mif_neg hnt]), _, rfl, _, _, rfl, rfl, _, rfl, _, rfl, q, b, _, k', rfl, rfl, e1, hb8, by rw [List.length_map]; omega, fun H9 k9 h9 => ⟨_, ?_, e2.trans k9, rfl⟩⟩
          rw [h9]
          dsimp only
          rw [hb1, putK_mapF]
          have eadg : adg (ksOf os) k' = ksOf os := by unfold adg; rw [if_pos hin]
          rw [eadg]
          congr 2
          refine List.map_congr_left fun z hz => ?_
          rw [List.take_add_one, hk1]
          by_cases ez : z = k'
          · subst ez
            rw [if_pos rfl, mif_pos (by simp), hwK]
          · rw [if_neg ez]
            by_cases hz2 : z ∈ (ksOf os).take j
            · rw [mif_pos hz2, mif_pos (List.mem_append.mpr (.inl hz2))]
            · rw [mif_neg hz2, mif_neg (by simp [ez, hz2])]
        · have e2₀ := e2
          rintro σ H8 ⟨o8, e1, e2, rfl⟩
          rw [List.length_map, hbl, List.take_length] at e1
          have kq : Kp [q] H1 H8 := (((e2₀.trans (k5.any _)).trans (k6.any _)).trans (k7.any _)).trans e2
          refine ⟨some (.int (m : Nat)), some y, some (.int ((1 : Int) * 2 ^ ((m : Nat) : Int).toNat)), some .non, o8, ?_, kq, ?_⟩
          · rw [eos1, hkt, ksOf_snoc, e1]
            congr 2
            refine List.map_congr_left fun z hz => ?_
            rw [mif_pos hz]
          · rw [eos1, hkt, hwN, ← hkt, hwT]
      | some k' =>
        rw [hkt] at hk
        obtain ⟨b, rfl, hb⟩ := hk
        refine itF rfl ?_
        have hwN : wt pn (os ++ [some k']) = wt pn os := by rw [wt_snoc, if_neg (by intro z; cases z)]; rfl
        have hwK : wt (pk k') (os ++ [some k']) = wt (pk k') os + 2 ^ m := by rw [wt_snoc, if_pos (by simp [pk]), hosl]
        have hwO : ∀ z, z ≠ k' → wt (pk z) (os ++ [some k']) = wt (pk z) os := fun z hz => by
          rw [wt_snoc, if_neg (by simp [pk]; exact fun e => hz e.symm)]; rfl
        have hget : (valV (swD os (ksOf os)) k').getD (.int ((wt pn os : Nat) : Int)) = .int ((wt (pk k') os : Nat) : Int) := by
          rw [valV_mapF]
          by_cases hin : k' ∈ ksOf os
          · rw [if_pos hin]; rfl
          · rw [if_neg hin, wt_pn_new hin]; rfl
        have hkl := len_ksOf os
        refine ⟨_, rfl, q, rfl, .inr ⟨_, .inl hq6⟩, _, rfl, _, rfl, _, dgT hq6 hb rfl, ?_⟩
        rw [hget]
        refine ⟨_, rfl, _, _, rfl, rfl, _, rfl, _, rfl, q, b, _, k', rfl, rfl, hq6, hb, by rw [List.length_map]; omega, fun H7 k7 h7 => ?_⟩
        have kq : Kp [q] H1 H7 := ((e2.trans (k5.any _)).trans (k6.any _)).trans k7
        refine ⟨some (.int (m : Nat)), some y, some (.int ((1 : Int) * 2 ^ ((m : Nat) : Int).toNat)), some (.ref b), o8, ?_, kq, ?_⟩
        · rw [h7]
          dsimp only
          rw [hb1, putK_mapF, eos1, hkt, ksOf_snoc]
          congr 2
          refine List.map_congr_left fun z hz => ?_
          by_cases ez : z = k'
          · subst ez
            rw [if_pos rfl, hwK]
          · rw [if_neg ez, hwO z ez]
        · rw [eos1, hwT, hkt, hwN, ← hb1 fun _ => true]; rfl
    · rintro σ H4 ⟨o4, o5, o6, o7, o8, e1, e2, rfl⟩
      rw [ht.len, List.take_length] at e1
      walk_at "go"
      intro p H5 n5 k5 h5
      refine h p H5 (fun B hB => ⟨q, fun z => hB _ z n1, ?_, k5.obj0 e1⟩) ((((k1.any [q]).trans e2).one rfl n1).trans k5)
      rw [h5, ht.len, List.take_length]
end
end GT
/-! GtV: code_of. -/
namespace GT
open PySem L2 GL PyProof.Rows RT
/-! tactics: a fact of the heap by what was kept; the reading's small steps -/
local macro_rules | `(tactic| walk_at "hp") => `(tactic| first | assumption | (refine Kp.tup (by assumption) ?_; walk_at "hp") | (refine Kp.obj0 (by assumption) ?_; walk_at "hp") | (refine Kp.obj1 (by assumption) ?_ (by first | assumption | (apply Ne.symm; assumption)); walk_at "hp"))
local macro_rules | `(tactic| walk_at "go") => `(tactic| repeat (first | (refine And.intro ?_ ?_; (first | rfl | walk_at "hp" | decide | (refine Or.inl ?_; walk_at "hp") | (refine Or.inr ?_; walk_at "hp") | (refine SqL.of ?_; walk_at "hp") | exact Nat.le_of_ble_eq_true rfl | exact kvS _ | exact kvI _ | exact cmulL rfl | exact cmulR rfl | exact cpw rfl | exact cdv rfl | omega | (dsimp only; first | decide | omega))) | apply Exists.intro))
local macro_rules | `(tactic| walk_at "kp") => `(tactic| first | assumption | exact Kp.refl _ _ | (refine Kp.trans ?_ (Kp.wk (by assumption) (by simp)); walk_at "kp"))
local macro_rules | `(tactic| walk_at "nn") => `(tactic| first | assumption | (refine Kp.fr (by assumption) _ ?_; walk_at "nn"))

abbrev KK := List L2.Key
def wOf (r : Rule) : KK := match r.1 with
  | .app s ks => [.inr s, .inl (ks.length : Nat)]
  | _ => []
def wsOf (rs : List Rule) : List KK := rs.foldl (fun l r => adg l (wOf r)) []
def sel (k : KK) : Nat → List Rule → List (Nat × Rule)
  | _, [] => []
  | i, r :: rs => if wOf r = k then (i, r) :: sel k (i + 1) rs else sel k (i + 1) rs
theorem sel_snoc (k : KK) (r : Rule) : ∀ (rs : List Rule) (i : Nat), sel k i (rs ++ [r]) = sel k i rs ++ (if wOf r = k then [(i + rs.length, r)] else [])
  | [], i => by
    show (if wOf r = k then (i, r) :: [] else []) = [] ++ _
    simp
  | a :: rs, i => by
    show (if wOf a = k then (i, a) :: sel k (i + 1) (rs ++ [r]) else sel k (i + 1) (rs ++ [r])) = (if wOf a = k then (i, a) :: sel k (i + 1) rs else sel k (i + 1) rs) ++ _
    rw [sel_snoc k r rs (i + 1)]
    have e : i + 1 + rs.length = i + (a :: rs).length := by simp; omega
    rw [e]
    split <;> simp
theorem wsOf_snoc (rs : List Rule) (r : Rule) : wsOf (rs ++ [r]) = adg (wsOf rs) (wOf r) := by unfold wsOf; rw [List.foldl_append]; rfl
theorem wsOf_spec : ∀ n (rs : List Rule), rs.length = n → (∀ k, k ∈ wsOf rs ↔ ∃ r ∈ rs, wOf r = k) ∧ (wsOf rs).Nodup ∧ (wsOf rs).length ≤ rs.length := by
  intro n
  induction n with
  | zero =>
    intro os h
    have e : os = [] := List.eq_nil_of_length_eq_zero h
    subst e; simp [wsOf]
  | succ n ih =>
    intro os h
    rcases List.eq_nil_or_concat os with e | ⟨r, o, e⟩
    · subst e; simp at h
    · rw [List.concat_eq_append] at e
      subst e
      rw [List.length_append, List.length_singleton] at h
      obtain ⟨i1, i2, i3⟩ := ih r (by omega)
      rw [wsOf_snoc, List.length_append, List.length_singleton]
      refine ⟨fun k => ?_, nodup_adg i2 _, ?_⟩
      · rw [mem_adg, i1 k]
        constructor
        · rintro (⟨q, h1, h2⟩ | rfl)
          · exact ⟨q, List.mem_append.mpr (.inl h1), h2⟩
          · exact ⟨o, by simp, rfl⟩
        · rintro ⟨q, h1, h2⟩
          rcases List.mem_append.mp h1 with h1 | h1
          · exact .inl ⟨q, h1, h2⟩
          · rw [List.mem_singleton] at h1; subst h1; exact .inr h2.symm
      · have := len_adg (wsOf r) (wOf o)
        omega
theorem mem_wsOf (rs : List Rule) (k : KK) : k ∈ wsOf rs ↔ ∃ r ∈ rs, wOf r = k := (wsOf_spec _ rs rfl).1 k
theorem nodup_wsOf (rs : List Rule) : (wsOf rs).Nodup := (wsOf_spec _ rs rfl).2.1
theorem len_wsOf (rs : List Rule) : (wsOf rs).length ≤ rs.length := (wsOf_spec _ rs rfl).2.2
theorem sel_none {k : KK} : ∀ {rs : List Rule} (i : Nat), (∀ r ∈ rs, wOf r ≠ k) → sel k i rs = []
  | [], _, _ => rfl
  | r :: rs, i, h => by
    unfold sel
    rw [if_neg (h r List.mem_cons_self)]
    exact sel_none (i + 1) fun q hq => h q (List.mem_cons_of_mem _ hq)
theorem sel_mem {k : KK} : ∀ {rs : List Rule} {i : Nat} {p : Nat × Rule}, p ∈ sel k i rs → p.2 ∈ rs ∧ wOf p.2 = k ∧ i ≤ p.1 ∧ rs[p.1 - i]? = some p.2
  | [], _, _, h => by cases h
  | r :: rs, i, p, h => by
    unfold sel at h
    have tl : p ∈ sel k (i + 1) rs → p.2 ∈ r :: rs ∧ wOf p.2 = k ∧ i ≤ p.1 ∧ (r :: rs)[p.1 - i]? = some p.2 := fun h => by
      obtain ⟨h1, h2, h3, h4⟩ := sel_mem h
      refine ⟨List.mem_cons_of_mem _ h1, h2, by omega, ?_⟩
      have e : p.1 - i = (p.1 - (i + 1)) + 1 := by omega
      rw [e, List.getElem?_cons_succ]; exact h4
    by_cases e : wOf r = k
    · rw [if_pos e] at h
      rcases List.mem_cons.mp h with h | h
      · subst h; exact ⟨List.mem_cons_self, e, Nat.le_refl _, by simp⟩
      · exact tl h
    · rw [if_neg e] at h
      exact tl h
theorem sel_len (k : KK) : ∀ (rs : List Rule) (i : Nat), (sel k i rs).length ≤ rs.length
  | [], _ => Nat.le_refl _
  | r :: rs, i => by
    have := sel_len k rs (i + 1)
    unfold sel
    split
    · simp only [List.length_cons]; omega
    · simp only [List.length_cons]; omega
/-- codes in a list -/
def Codes (H : Hp) (B : List Addr) : List V → List (Nat × Rule) → Prop
  | [], [] => True
  | v :: vs, p :: ps => CodeAt H B v ((p.1 : Nat) + 1) p.2 ∧ Codes H B vs ps
  | _, _ => False
theorem CodeAt.keep {S B B' : List Addr} {H H' : Hp} {v : V} {i : Int} {r : Rule} (h : CodeAt H B v i r) (k : Kp S H H') (hs : ∀ a ∈ S, a ∈ B ∨ ∀ l, H a ≠ some (.lst l)) (hb : ∀ a ∈ B', a ∈ B ∨ ∀ l, H a ≠ some (.lst l)) : CodeAt H' B' v i r := by
  obtain ⟨p, aro, xs, rs, e, h1, h2, h3, h4, h5⟩ := h
  have ns : ∀ a : Addr, (a ∈ B ∨ ∀ l, H a ≠ some (.lst l)) → aro ≠ a := by
    rintro a (z | z) rfl
    · exact h5 z
    · exact z _ h2
  exact ⟨p, aro, xs, rs, e, k.tup h1, k.obj h2 (fun z => ns _ (hs _ z) rfl), h3.kp k, h4, fun z => ns _ (hb _ z) rfl⟩
theorem Codes.keep {S B B' : List Addr} {H H' : Hp} (k : Kp S H H') (hs : ∀ a ∈ S, a ∈ B ∨ ∀ l, H a ≠ some (.lst l)) (hb : ∀ a ∈ B', a ∈ B ∨ ∀ l, H a ≠ some (.lst l)) : ∀ {vs : List V} {ps : List (Nat × Rule)}, Codes H B vs ps → Codes H' B' vs ps
  | [], [], _ => trivial
  | v :: vs, p :: ps, ⟨h1, h2⟩ => ⟨h1.keep k hs hb, Codes.keep k hs hb h2⟩
  | [], _ :: _, h => False.elim h
  | _ :: _, [], h => False.elim h
theorem Codes.snoc {B : List Addr} {H : Hp} {v : V} {p : Nat × Rule} (h2 : CodeAt H B v ((p.1 : Nat) + 1) p.2) : ∀ {vs : List V} {ps : List (Nat × Rule)}, Codes H B vs ps → Codes H B (vs ++ [v]) (ps ++ [p])
  | [], [], _ => ⟨h2, trivial⟩
  | v :: vs, p :: ps, ⟨h1, h⟩ => ⟨h1, Codes.snoc h2 h⟩
  | [], _ :: _, h => False.elim h
  | _ :: _, [], h => False.elim h
theorem Codes.len {B : List Addr} {H : Hp} : ∀ {vs : List V} {ps : List (Nat × Rule)}, Codes H B vs ps → vs.length = ps.length
  | [], [], _ => rfl
  | v :: vs, p :: ps, ⟨_, h⟩ => by rw [List.length_cons, List.length_cons, Codes.len h]
  | [], _ :: _, h => False.elim h
  | _ :: _, [], h => False.elim h
theorem Codes.get {B : List Addr} {H : Hp} : ∀ {vs : List V} {ps : List (Nat × Rule)} {i : Nat} {p : Nat × Rule}, Codes H B vs ps → ps[i]? = some p → ∃ v, vs[i]? = some v ∧ CodeAt H B v ((p.1 : Nat) + 1) p.2
  | v :: vs, r :: rs, 0, _, ⟨h, _⟩, e => by cases e; exact ⟨v, rfl, h⟩
  | v :: vs, r :: rs, i + 1, u, ⟨_, h⟩, e => by
    obtain ⟨t', h1, h2⟩ := Codes.get (i := i) (p := u) h (by simpa using e)
    exact ⟨t', by simpa using h1, h2⟩
  | [], [], _, _, _, e => by simp at e
  | [], _ :: _, _, _, h, _ => False.elim h
  | _ :: _, [], _, _, h, _ => False.elim h
/-- lists that a dict holds: codes (false), heads (true) -/
def CN (H : Hp) (B : List Addr) (b : Bool) (vs : List V) (ps : List (Nat × Rule)) : Prop := match b with
  | false => Codes H B vs ps
  | true => TAs .str H vs (ps.map fun p => p.2.1)
theorem CN.keep {S B B' : List Addr} {H H' : Hp} {b : Bool} {vs : List V} {ps : List (Nat × Rule)} (h : CN H B b vs ps) (k : Kp S H H') (hs : ∀ a ∈ S, a ∈ B ∨ ∀ l, H a ≠ some (.lst l)) (hb : ∀ a ∈ B', a ∈ B ∨ ∀ l, H a ≠ some (.lst l)) : CN H' B' b vs ps := by
  cases b with
  | false => exact Codes.keep k hs hb h
  | true => exact TAs.kp h k
theorem CN.len {B : List Addr} {H : Hp} {b : Bool} {vs : List V} {ps : List (Nat × Rule)} (h : CN H B b vs ps) : vs.length = ps.length := by
  cases b with
  | false => exact Codes.len h
  | true => have := TAs.len h; simpa using this
structure CS (H0 H : Hp) (q : Bool → Addr) (ks : List (Bool × KK)) (A : Bool × KK → Addr) (cont : Bool × KK → List V) (ws : Bool → List KK) (rs : Bool → List Rule) : Prop where
  kp : Kp [] H0 H
  qf : ∀ b, H0 (q b) = none
  qn : q false ≠ q true
  d : ∀ b, H (q b) = some (.dT ((ws b).map fun k => (k, .ref (A (b, k)))))
  at_ : ∀ k ∈ ks, H (A k) = some (.lst (cont k))
  fr : ∀ k ∈ ks, H0 (A k) = none
  inj : ∀ x ∈ ks, ∀ y ∈ ks, A x = A y → x = y
  m : ∀ b k, k ∈ ws b ↔ (b, k) ∈ ks
  e : ∀ b k, k ∉ ws b → sel k 0 (rs b) = []
  c : ∀ b k, k ∈ ws b → CN H (ks.map A) b (cont (b, k)) (sel k 0 (rs b))
theorem Kp.grow {H0 H H' : Hp} {c : Addr} (k : Kp [] H0 H) (k2 : Kp [c] H H') (n : H0 c = none) : Kp [] H0 H' := ((k.any [c]).trans k2).one rfl n
theorem CS.keep {H0 H H' : Hp} {q : Bool → Addr} {ks : List (Bool × KK)} {A : Bool × KK → Addr} {cont : Bool × KK → List V} {ws : Bool → List KK} {rs : Bool → List Rule} (s : CS H0 H q ks A cont ws rs) (k : Kp [] H H') : CS H0 H' q ks A cont ws rs :=
  { kp := s.kp.trans k, qf := s.qf, qn := s.qn, d := fun b => k.obj0 (s.d b), at_ := fun x hx => k.obj0 (s.at_ x hx), fr := s.fr, inj := s.inj, m := s.m, e := s.e, c := fun b x hx => (s.c b x hx).keep k (fun a z => by cases z) fun a z => .inl z }
/-- a new list for a new word -/
theorem CS.new {H0 H H1 H' : Hp} {q : Bool → Addr} {ks : List (Bool × KK)} {A : Bool × KK → Addr} {cont : Bool × KK → List V} {ws : Bool → List KK} {rs : Bool → List Rule} (s : CS H0 H q ks A cont ws rs) {b : Bool} {w : KK} {p : Addr} (hn : w ∉ ws b)
    (hp : H p = none) (k1 : Kp [] H H1) (h1 : H1 p = some (.lst [])) (k2 : Kp [q b] H1 H') (h2 : H' (q b) = some (.dT (putK ((ws b).map fun k => (k, .ref (A (b, k)))) w (.ref p)))) :
    ∃ A' cont', A' (b, w) = p ∧ cont' (b, w) = [] ∧ CS H0 H' q (ks ++ [(b, w)]) A' cont' (fun x => if x = b then adg (ws b) w else ws x) rs := by
  have hpk : ∀ x ∈ ks, A x ≠ p := fun x hx e => by
    have := s.at_ x hx
    rw [e, hp] at this; cases this
  have hnk : (b, w) ∉ ks := fun z => hn ((s.m b w).mpr z)
  have hnx : ∀ x ∈ ks, x ≠ (b, w) := fun x hx e => hnk (e ▸ hx)
  have hqp : ∀ c, q c ≠ p := fun c e => by
    have := s.d c
    rw [e, hp] at this; cases this
  have hqA : ∀ c, ∀ x ∈ ks, A x ≠ q c := fun c x hx e => by
    have h1 := s.at_ x hx
    have h2 := s.d c
    rw [e, h2] at h1; cases h1
  have kk : Kp [q b] H H' := (k1.any _).trans k2
  have eadg : adg (ws b) w = ws b ++ [w] := by unfold adg; rw [if_neg hn]
  refine ⟨fun x => if x = (b, w) then p else A x, fun x => if x = (b, w) then [] else cont x, if_pos rfl, if_pos rfl, ?_⟩
  refine { kp := s.kp.grow kk (s.qf b), qf := s.qf, qn := s.qn, d := fun c => ?_, at_ := fun x hx => ?_, fr := fun x hx => ?_, inj := fun x hx y hy e => ?_, m := fun c k => ?_, e := fun c k hk => ?_, c := fun c k hk => ?_ }
  · by_cases hc : c = b
    · subst hc
      rw [h2, putK_mapF]
      rw [if_pos rfl]
      refine congrArg (fun l => some (HO.dT l)) (List.map_congr_left fun z hz => ?_)
      by_cases ez : z = w
      · subst ez; rw [if_pos rfl, if_pos rfl]
      · rw [if_neg ez, if_neg (fun e => ez (Prod.mk.inj e).2)]
    · rw [if_neg hc]
      have hqq : q c ≠ q b := by
        have := s.qn
        cases c <;> cases b <;> first | exact absurd rfl hc | exact this | exact Ne.symm this
      rw [kk.obj1 (s.d c) hqq]
      refine congrArg (fun l => some (HO.dT l)) (List.map_congr_left fun z hz => ?_)
      rw [if_neg (fun e => hc (Prod.mk.inj e).1)]
  · try dsimp only
    rcases List.mem_append.mp hx with hx | hx
    · rw [if_neg (hnx x hx), if_neg (hnx x hx)]
      exact kk.obj1 (s.at_ x hx) (hqA b x hx)
    · rw [List.mem_singleton] at hx
      rw [if_pos hx, if_pos hx]
      exact k2.obj1 h1 (Ne.symm (hqp b))
  · try dsimp only
    rcases List.mem_append.mp hx with hx | hx
    · rw [if_neg (hnx x hx)]; exact s.fr x hx
    · rw [List.mem_singleton] at hx
      rw [if_pos hx]; exact s.kp.fr _ hp
  · try dsimp only at e
    rcases List.mem_append.mp hx with hx | hx <;> rcases List.mem_append.mp hy with hy | hy
    · rw [if_neg (hnx x hx), if_neg (hnx y hy)] at e; exact s.inj x hx y hy e
    · rw [List.mem_singleton] at hy
      rw [if_neg (hnx x hx), if_pos hy] at e; exact absurd e (hpk x hx)
    · rw [List.mem_singleton] at hx
      rw [if_neg (hnx y hy), if_pos hx] at e; exact absurd e.symm (hpk y hy)
    · rw [List.mem_singleton] at hx hy; rw [hx, hy]
  · try dsimp only
    rw [List.mem_append, List.mem_singleton]
    by_cases hc : c = b
    · subst hc
      rw [if_pos rfl, mem_adg, s.m c k]
      simp
    · rw [if_neg hc, s.m c k]
      constructor
      · exact .inl
      · rintro (z | z)
        · exact z
        · exact absurd (Prod.mk.inj z).1 hc
  · try dsimp only at hk
    by_cases hc : c = b
    · subst hc
      rw [if_pos rfl, mem_adg] at hk
      exact s.e c k fun z => hk (.inl z)
    · rw [if_neg hc] at hk; exact s.e c k hk
  · try dsimp only at hk ⊢
    have hB : ∀ a ∈ (ks ++ [(b, w)]).map (fun x => if x = (b, w) then p else A x), a ∈ ks.map A ∨ H a = none := by
      intro a ha
      obtain ⟨x, hx, rfl⟩ := List.mem_map.mp ha
      rcases List.mem_append.mp hx with hx | hx
      · rw [if_neg (hnx x hx)]; exact .inl (List.mem_map.mpr ⟨x, hx, rfl⟩)
      · rw [List.mem_singleton] at hx
        rw [if_pos hx]; exact .inr hp
    have hS : ∀ vs ps c, CN H (ks.map A) c vs ps → CN H' ((ks ++ [(b, w)]).map (fun x => if x = (b, w) then p else A x)) c vs ps := fun vs ps c hcn => by
      cases c with
      | true => exact TAs.kp hcn kk
      | false =>
        have : ∀ {vs : List V} {ps : List (Nat × Rule)}, Codes H (ks.map A) vs ps → Codes H' ((ks ++ [(b, w)]).map (fun x => if x = (b, w) then p else A x)) vs ps := by
          intro vs
          induction vs with
          | nil => intro ps hcs; cases ps with
            | nil => trivial
            | cons p ps => exact False.elim hcs
          | cons v vs ih => intro ps hcs; cases ps with
            | nil => exact False.elim hcs
            | cons p2 ps =>
              obtain ⟨⟨p9, aro, xs, rr, e1, e2, e3, e4, e5, e6⟩, hcs⟩ := hcs
              refine ⟨⟨p9, aro, xs, rr, e1, kk.tup e2, kk.obj1 e3 ?_, e4.kp kk, e5, ?_⟩, ih hcs⟩
              · rintro rfl
                rw [s.d b] at e3; cases e3
              · intro z
                rcases hB _ z with z | z
                · exact e6 z
                · rw [z] at e3; cases e3
        exact this hcn
    by_cases hc : (c, k) = (b, w)
    · rw [if_pos hc]
      obtain ⟨rfl, rfl⟩ := Prod.mk.inj hc
      rw [s.e c k hn]
      cases c <;> trivial
    · rw [if_neg hc]
      refine hS _ _ _ (s.c c k ?_)
      by_cases hcb : c = b
      · subst hcb
        rw [if_pos rfl, mem_adg] at hk
        rcases hk with hk | hk
        · exact hk
        · subst hk; exact absurd rfl hc
      · rw [if_neg hcb] at hk; exact hk
/-- one thing more in a word's list -/
theorem CS.app {H0 H H' : Hp} {q : Bool → Addr} {ks : List (Bool × KK)} {A : Bool × KK → Addr} {cont : Bool × KK → List V} {ws : Bool → List KK} {rs : Bool → List Rule} (s : CS H0 H q ks A cont ws rs) {b : Bool} {r : Rule} {v : V} (hn : wOf r ∈ ws b)
    (k : Kp [A (b, wOf r)] H H') (h : H' (A (b, wOf r)) = some (.lst (cont (b, wOf r) ++ [v]))) (hv : CN H (ks.map A) b [v] [((rs b).length, r)]) :
    ∃ cont', CS H0 H' q ks A cont' ws (fun x => if x = b then rs b ++ [r] else rs x) := by
  have hin := (s.m b _).mp hn
  have hqA : ∀ c, q c ≠ A (b, wOf r) := fun c e => by
    have h1 := s.at_ _ hin
    have h2 := s.d c
    rw [e, h1] at h2; cases h2
  refine ⟨fun x => if x = (b, wOf r) then cont (b, wOf r) ++ [v] else cont x, ?_⟩
  have hS : ∀ a ∈ [A (b, wOf r)], a ∈ ks.map A ∨ ∀ l, H a ≠ some (.lst l) := fun a ha => by
    rw [List.mem_singleton] at ha; subst ha; exact .inl (List.mem_map.mpr ⟨_, hin, rfl⟩)
  refine { kp := s.kp.grow k (s.fr _ hin), qf := s.qf, qn := s.qn, d := fun c => k.obj1 (s.d c) (hqA c), at_ := fun x hx => ?_, fr := s.fr, inj := s.inj, m := s.m, e := fun c z hz => ?_, c := fun c z hz => ?_ }
  · try dsimp only
    by_cases hx2 : x = (b, wOf r)
    · rw [if_pos hx2, hx2]; exact h
    · rw [if_neg hx2]
      exact k.obj1 (s.at_ x hx) fun e => hx2 (s.inj x hx _ hin e)
  · try dsimp only
    by_cases hc : c = b
    · subst hc
      rw [if_pos rfl, sel_snoc, s.e c z hz, if_neg (fun (e : wOf r = z) => hz (by rw [← e]; exact hn))]; rfl
    · rw [if_neg hc]; exact s.e c z hz
  · try dsimp only
    have hcz := (s.c c z hz).keep k hS (fun a ha => .inl ha)
    by_cases hc : c = b
    · subst hc
      rw [if_pos rfl, sel_snoc]
      by_cases hw : wOf r = z
      · subst hw
        rw [if_pos rfl, if_pos rfl]
        have hv' := hv.keep k hS (fun a ha => .inl ha)
        rw [Nat.zero_add]
        cases c with
        | false => exact Codes.snoc hv'.1 hcz
        | true =>
          show TAs .str H' _ _
          rw [List.map_append]
          exact TAs.append hcz hv'
      · rw [if_neg hw, if_neg (fun e => hw (Prod.mk.inj e).2.symm), List.append_nil]
        exact hcz
    · rw [if_neg hc, if_neg (fun e => hc (Prod.mk.inj e).1)]
      exact hcz
theorem SwAt.keep {H H' : Hp} {S B : List Addr} {p : Addr} {os : List (Option KK)} (h : SwAt H B p os) (k : Kp S H H') (hs : ∀ a ∈ S, a ∈ B ∨ H a = none) : SwAt H' B p os := by
  obtain ⟨q, hb, h1, h2⟩ := h
  refine ⟨q, hb, k.tup h1, k.obj h2 fun z => ?_⟩
  rcases hs q z with z | z
  · exact hb z
  · rw [z] at h2; cases h2
/-- what code_of gives -/
def Found (H : Hp) (p : Addr) (rs : List Rule) : Prop := ∃ F : KK → Addr, H p = some (.dT ((wsOf rs).map fun k => (k, .ref (F k)))) ∧
  ∀ k ∈ wsOf rs, ∃ c sw cs, H (F k) = some (.tup [.ref c, .ref sw]) ∧ H c = some (.lst cs) ∧ Codes H [] cs (sel k 0 rs) ∧ SwAt H [] sw ((sel k 0 rs).map fun p => kOf p.2.1)
section
variable {P : Program} {w : World} {K : PySem.W.Frag} {mg : Str → Option Value} {base : Heap} {C d : Addr} {es : Array DictEntry} {n : Nat} {k : Nat}
theorem CS.use {H0 H1 H2 : Hp} {q : Bool → Addr} {ks : List (Bool × KK)} {A : Bool × KK → Addr} {cont : Bool × KK → List V} {ws : Bool → List KK} {rs : Bool → List Rule} (s : CS H0 H1 q ks A cont ws rs) {b : Bool} {r : Rule} {v : V} (hn : wOf r ∈ ws b) (k : Kp [] H1 H2)
    (hv : CN H2 (ks.map A) b [v] [((rs b).length, r)]) (hl : (rs b).length ≤ 1000) {R : Hp → Prop} (hR : ∀ H3 cont', CS H0 H3 q ks A cont' ws (fun x => if x = b then rs b ++ [r] else rs x) → (∀ a xs, H1 a = some (.tup xs) → H3 a = some (.tup xs)) → R H3) :
    ∃ xs, H2 (A (b, wOf r)) = some (.lst xs) ∧ xs.length ≤ 100000 ∧ Wr H2 (A (b, wOf r)) (.lst (xs ++ [v])) R := by
  have s2 := s.keep k
  have hin := (s2.m b _).mp hn
  refine ⟨_, s2.at_ _ hin, ?_, fun H3 k3 h3 => ?_⟩
  · rw [(s2.c b _ hn).len]
    have := sel_len (wOf r) (rs b) 0
    omega
  · obtain ⟨cont', s3⟩ := s2.app hn k3 h3 hv
    exact hR H3 cont' s3 fun a xs e => k3.tup (k.tup e)
/-- d.setdefault(word, []).append(e) -/
theorem sd_app {te : TE} {D : Ends} {σ : L2.St} {H0 H : Hp} {q : Bool → Addr} {ks : List (Bool × KK)} {A : Bool × KK → Addr} {cont : Bool × KK → List V} {ws : Bool → List KK} {rs : Bool → List Rule} (s : CS H0 H q ks A cont ws rs) {b : Bool} {r : Rule} {i j : Nat} {pw : Addr}
    (hd : σ[i]? = some (some (.ref (q b)))) (hw : σ[j]? = some (some (.ref pw))) (hpw : H pw = some (.tup ((wOf r).map kV))) (hl : (ws b).length ≤ 1000)
    (kn : ∀ H1 ks1 A1 cont1, CS H0 H1 q ks1 A1 cont1 (fun x => if x = b then adg (ws b) (wOf r) else ws x) rs → (∀ a xs, H a = some (.tup xs) → H1 a = some (.tup xs)) → te σ H1 fun y H2 => ∃ xs, H2 (A1 (b, wOf r)) = some (.lst xs) ∧ xs.length ≤ 100000 ∧ Wr H2 (A1 (b, wOf r)) (.lst (xs ++ [y])) fun H3 => D.nx σ H3) :
    tDrop (uApp (uSetdT (tVar i) (tVar j) (uLst tNil)) te) D σ H := by
  have fin : ∀ H1 ks1 A1 cont1, CS H0 H1 q ks1 A1 cont1 (fun x => if x = b then adg (ws b) (wOf r) else ws x) rs → (∀ a xs, H a = some (.tup xs) → H1 a = some (.tup xs)) → 
      ∃ l xs0, V.ref (A1 (b, wOf r)) = .ref l ∧ H1 l = some (.lst xs0) ∧ te σ H1 fun y H2 => ∃ xs, H2 l = some (.lst xs) ∧ xs.length ≤ 100000 ∧ Wr H2 l (.lst (xs ++ [y])) fun H3 => D.nx σ H3 := by
    intro H1 ks1 A1 cont1 s1 tk1
    have hmem : wOf r ∈ (fun x => if x = b then adg (ws b) (wOf r) else ws x) b := by
      show wOf r ∈ if b = b then _ else _
      rw [if_pos rfl, mem_adg]; exact .inr rfl
    have hin := (s1.m b _).mp hmem
    exact ⟨_, _, rfl, s1.at_ _ hin, kn H1 ks1 A1 cont1 s1 tk1⟩
  refine ⟨_, hd, q b, _, rfl, s.d b, _, hw, by decide, fun p H1 n1 k1 h1 => ⟨pw, _, wOf r, rfl, k1.obj0 (s.d b), k1.tup hpw, by rw [List.length_map]; omega, fun v hv => ?_, fun hn H2 k2 h2 => ?_⟩⟩
  · rw [valV_mapF] at hv
    by_cases hin : wOf r ∈ ws b
    · rw [if_pos hin] at hv
      injection hv with hv
      subst hv
      refine fin H1 ks A cont ?_ fun a xs e => k1.tup e
      have e : (fun x => if x = b then adg (ws b) (wOf r) else ws x) = ws := by
        funext x
        by_cases hx : x = b
        · rw [if_pos hx, hx]; unfold adg; rw [if_pos hin]
        · rw [if_neg hx]
      rw [e]
      exact s.keep k1
    · rw [if_neg hin] at hv; cases hv
  · rw [valV_mapF] at hn
    by_cases hin : wOf r ∈ ws b
    · rw [if_pos hin] at hn; cases hn
    · obtain ⟨A', cont', e1, e2, s'⟩ := s.new hin n1 k1 h1 k2 h2
      have := fin H2 _ A' cont' s' fun a xs e => k2.tup (k1.tup e)
      rw [e1] at this
      exact this
abbrev s_code_of : Stmt := (topS 10)
abbrev N_code_of : List Str := ["rules", "codes", "heads", "place", "rule", "word", "found"]
theorem sc_code_of : FnScope N_code_of ["rules"] (defScope s_code_of) := ⟨rfl, rfl, rfl, by decide +kernel, rfl, by decide +kernel, by decide +kernel⟩

def spCodeOf : Sp := fun vs H Q _ => ∃ (a : Addr) (xs : List V) (rs : List Rule), vs = [.ref a] ∧ H a = some (.lst xs) ∧ RAs H xs rs ∧ (∀ r ∈ rs, ROk r) ∧ rs.length ≤ 40 ∧
  ∀ p H', Found H' p rs → Kp [] H H' → Q (.ref p) H'
theorem ok_code_of (tx : Txt K w mg C d es n) (d_rule_code : Def P w K mg base "rule_code" k ["number", "rule"] spRuleCode) (d_switch_of : Def P w K mg base "switch_of" k ["heads"] spSwitchOf) (D : DefAt K mg "code_of" s_code_of ["rules"]) : Def P w K mg base "code_of" (k + 1) ["rules"] spCodeOf := by
  refine D.ok sc_code_of (fun vs H Q E h => ?_) (fun f cdv A outer s H vs Q E hr h => ?_)
  · obtain ⟨a, xs, rs, rfl, _⟩ := h; rfl
  · obtain ⟨a, xs, rs, rfl, ha, hR, hok, hl, h⟩ := h
    have hu := hu_of hr
    refine ⟨_, (pss_cons (ps_set (i := 1) sc_code_of.nd rfl (by first | exact .inl rfl | exact .inr rfl) pe_dnewTN)
      (pss_cons (ps_set (i := 2) sc_code_of.nd rfl (by first | exact .inl rfl | exact .inr rfl) pe_dnewTN)
      (pss_cons (ps_forEL PassesOwn.never rfl (by rfl) tx.enumerate_ (pv 0) (pg_name (i := 3) sc_code_of.nd rfl (by first | exact .inl rfl | exact .inr rfl)) (pg_name (i := 4) sc_code_of.nd rfl (by first | exact .inl rfl | exact .inr rfl)) (pss_cons (ps_set (i := 5) sc_code_of.nd rfl (by first | exact .inl rfl | exact .inr rfl) (pe_tupN (pa_cons (pe_tc (n := 1) (pe_tc (n := 0) (pv 4))) (pa_cons (pe_len (by rfl) tx.len_ (pe_tc (n := 2) (pe_tc (n := 0) (pv 4)))) pa_nil))))
      (pss_cons (ps_expr (pe_app (pe_setdT hu (pv 1) (pv 5) (pe_lstN pa_nil)) (pe_cl d_rule_code (hr.mono (by omega)) (pa_cons (pe_op op_add (pv 3) pe_int) (pa_cons (pv 4) pa_nil)))))
      (pss_one (ps_expr (pe_app (pe_setdT hu (pv 2) (pv 5) (pe_lstN pa_nil)) (pe_tc (n := 0) (pv 4))))))))
      (pss_cons (ps_set (i := 6) sc_code_of.nd rfl (by first | exact .inl rfl | exact .inr rfl) pe_dnewTN)
      (pss_cons (ps_forKT PassesOwn.never rfl (pv 1) (pg_name (i := 5) sc_code_of.nd rfl (by first | exact .inl rfl | exact .inr rfl)) (pss_one (ps_putT hu (pv 6) (pv 5) (pe_tupN (pa_cons (pe_dget hu (pv 1) (pv 5) (fun _ _ => rfl)) (pa_cons (pe_cl d_switch_of (hr.mono (by omega)) (pa_cons (pe_dget hu (pv 2) (pv 5) (fun _ _ => rfl)) pa_nil)) pa_nil))))))
      (pss_one (ps_ret (pv 6)))))))), ?_⟩
    walk_at "go"
    intro q1 H1 n1 k1 h1
    walk_at "go"
    intro q2 H2 n2 k2 h2
    have q12 : q1 ≠ q2 := by rintro rfl; rw [h1] at n2; cases n2
    have k02 := k1.trans k2
    have ha2 := k02.obj0 ha
    obtain ⟨q, hq⟩ : ∃ q : Bool → Addr, q = fun b => if b then q2 else q1 := ⟨_, rfl⟩
    have hqf : q false = q1 := by rw [hq]; rfl
    have hqt : q true = q2 := by rw [hq]; rfl
    have cs0 : CS H H2 q [] (fun _ => 0) (fun _ => []) (fun _ => wsOf (rs.take 0)) (fun _ => rs.take 0) :=
      { kp := k02, qf := fun b => by cases b with
          | false => rw [hqf]; exact n1
          | true => rw [hqt]; exact k1.fr _ n2
        qn := by rw [hqf, hqt]; exact q12
        d := fun b => by cases b with
          | false => rw [hqf]; exact k2.obj0 h1
          | true => rw [hqt]; exact h2
        at_ := fun k hk => by cases hk
        fr := fun k hk => by cases hk
        inj := fun k hk => by cases hk
        m := fun b k => by simp [wsOf]
        e := fun b k _ => rfl
        c := fun b k hk => by simp [wsOf] at hk }
    walk_at "go"
    refine ⟨⟨fun m σ H' => ∃ ks A cont o3 o4 o5 o6, CS H H' q ks A cont (fun _ => wsOf (rs.take m)) (fun _ => rs.take m) ∧ σ = [some (.ref a), some (.ref q1), some (.ref q2), o3, o4, o5, o6],
      ⟨_, _, _, _, _, _, _, cs0, rfl⟩, ?_, ?_, ?_⟩⟩
    · rintro m σ H' ⟨ks, A, cont, o3, o4, o5, o6, cs, rfl⟩
      exact cs.kp.obj0 ha
    · rintro m y σ H4 H5 hy ⟨ks, A, cont, o3, o4, o5, o6, cs, rfl⟩ k5
      have cs5 := cs.keep k5
      have hm : m < rs.length := by
        have := (List.getElem?_eq_some_iff.mp hy).1
        rw [hR.len] at this; exact this
      obtain ⟨r, hr1⟩ : ∃ r, rs[m]? = some r := ⟨_, List.getElem?_eq_getElem hm⟩
      obtain ⟨y', hy1, hRA⟩ := hR.get hr1
      have ey : y' = y := by rw [hy1] at hy; exact Option.some.inj hy
      subst ey
      have hrm := List.mem_of_getElem? hr1
      have hro := hok r hrm
      have hR5 := hRA.kp cs5.kp
      obtain ⟨ar, hv, br, gvs, rfl, har, hbr, hh, hg⟩ := id hR5
      obtain ⟨s0, ks0, e0, _⟩ := hro.hd
      rw [e0] at hh
      obtain ⟨ah, bh, vk, rfl, hah, hbh, hk⟩ := id hh
      have hkl := hk.len
      have etk : rs.take (m + 1) = rs.take m ++ [r] := by rw [List.take_add_one, hr1]; rfl
      have htl : (rs.take m).length = m := by rw [List.length_take]; omega
      have hwl := len_wsOf (rs.take m)
      walk_at "go"
      intro pw H6 n6 k6 h6
      have cs6 := cs5.keep k6
      have hpw : H6 pw = some (.tup ((wOf r).map kV)) := by
        rw [h6, hkl]; unfold wOf; rw [e0]; rfl
      refine sd_app cs6 (b := false) (r := r) (pw := pw) (by rw [hqf]; rfl) rfl hpw (by show (wsOf (rs.take m)).length ≤ 1000; omega) fun H7 ks7 A7 cont7 cs7 tk7 => ?_
      have hR7 : RA H7 (.ref ar) r := hRA.kp cs7.kp
      refine ⟨_, rfl, _, _, rfl, rfl, _, rfl, _, _, r, rfl, hR7, hro, fun u H8 hcode k8 => ?_⟩
      refine cs7.use (b := false) (r := r) (by show wOf r ∈ if false = false then _ else _; rw [if_pos rfl, mem_adg]; exact .inr rfl) k8 ⟨?_, trivial⟩ (by show (rs.take m).length ≤ 1000; omega) fun H9 cont9 cs9 tk9 => ?_
      · show CodeAt H8 _ u (((rs.take m).length : Nat) + 1) r
        rw [htl]
        refine hcode _ fun b hb => ?_
        obtain ⟨x, hx, rfl⟩ := List.mem_map.mp hb
        rw [cs7.at_ x hx]; intro z; cases z
      · have hpw9 := tk9 _ _ (tk7 _ _ hpw)
        refine sd_app cs9 (b := true) (r := r) (pw := pw) (by rw [hqt]; rfl) rfl hpw9 (by show (wsOf (rs.take m)).length ≤ 1000; omega) fun H10 ks10 A10 cont10 cs10 tk10 => ?_
        have hR10 := hRA.kp cs10.kp
        have har10 : H10 ar = some (.tup [.ref ah, .ref br]) := tk10 _ _ (tk9 _ _ (tk7 _ _ (k6.tup har)))
        refine ⟨_, rfl, ar, _, _, rfl, har10, rfl, ?_⟩
        refine cs10.use (b := true) (r := r) (by show wOf r ∈ if true = true then _ else _; rw [if_pos rfl, mem_adg]; exact .inr rfl) (Kp.refl _ _) ?_ (by show (rs.take m).length ≤ 1000; omega) fun H11 cont11 cs11 tk11 => ⟨ks10, A10, cont11, _, _, _, _, ?_, rfl⟩
        · obtain ⟨ar', hv', br', gvs', e1, e2, _, e4, _⟩ := hR10
          injection e1 with e1
          subst e1
          rw [har10] at e2
          injection e2 with e2; injection e2 with e2; injection e2 with e2 e3
          subst e2
          exact ⟨e4, trivial⟩
        · have ew : (fun x : Bool => if x = true then adg ((fun x : Bool => if x = false then adg (wsOf (rs.take m)) (wOf r) else wsOf (rs.take m)) true) (wOf r) else (fun x : Bool => if x = false then adg (wsOf (rs.take m)) (wOf r) else wsOf (rs.take m)) x) = fun _ => wsOf (rs.take (m + 1)) := by
            funext x
            rw [etk, wsOf_snoc]
            cases x <;> rfl
          have er : (fun x : Bool => if x = true then (fun x : Bool => if x = false then rs.take m ++ [r] else rs.take m) true ++ [r] else (fun x : Bool => if x = false then rs.take m ++ [r] else rs.take m) x) = fun _ => rs.take (m + 1) := by
            funext x
            rw [etk]
            cases x <;> rfl
          rw [← ew, ← er]
          exact cs11
    · rintro σ H4 ⟨ks, A, cont, o3, o4, o5, o6, cs, rfl⟩
      rw [hR.len, List.take_length] at cs
      have hwl := len_wsOf rs
      walk_at "go"
      intro q3 H5 n5 k5 h5
      have cs5 := cs.keep k5
      have hd1 := cs5.d false
      have hd2 := cs5.d true
      rw [hqf] at hd1
      rw [hqt] at hd2
      have q31 : q3 ≠ q1 := by rintro rfl; have := cs.d false; rw [hqf, n5] at this; cases this
      have q32 : q3 ≠ q2 := by rintro rfl; have := cs.d true; rw [hqt, n5] at this; cases this
      refine ⟨q1, _, rfl, hd1, fun od H6 k6 h6 => ?_⟩
      refine ⟨⟨fun j σ H' => ∃ (F : KK → Addr) (o5 : Option V), H' q3 = some (.dT (((wsOf rs).take j).map fun k => (k, .ref (F k)))) ∧ (∀ k ∈ (wsOf rs).take j, ∃ sw, H' (F k) = some (.tup [.ref (A (false, k)), .ref sw]) ∧ SwAt H' [q1, q3] sw ((sel k 0 rs).map fun p => kOf p.2.1)) ∧
        H' q1 = some (.frz od (.dT ((wsOf rs).map fun k => (k, .ref (A (false, k)))))) ∧ Kp [q1, q3] H5 H' ∧ σ = [some (.ref a), some (.ref q1), some (.ref q2), o3, o4, o5, some (.ref q3)],
        ⟨fun _ => 0, _, ?_, ?_, h6, k6.wk (by simp), rfl⟩, ?_, ?_, ?_⟩⟩
      · rw [k6.obj1 h5 q31]; rfl
      · intro k hk; simp at hk
      · rintro j σ H' ⟨F, o5, e1, e2, e3, e4, rfl⟩
        exact e3
      · rintro j k v kq σ H7 hkv hkq ⟨F, o5, e1, e2, e3, e4, rfl⟩
        rw [List.getElem?_map] at hkv
        obtain ⟨k', hk1, hk2⟩ := Option.map_eq_some_iff.mp hkv
        obtain ⟨rfl, rfl⟩ := Prod.mk.inj hk2
        have hin := List.mem_of_getElem? hk1
        have hinf := (cs5.m false k').mp hin
        have hint := (cs5.m true k').mp hin
        have nA : ∀ x ∈ ks, A x ∉ [q1, q3] := fun x hx z => by
          have hx5 := cs5.at_ x hx
          simp only [List.mem_cons, List.not_mem_nil, or_false] at z
          rcases z with z | z
          · rw [z, hd1] at hx5; cases hx5
          · rw [z, h5] at hx5; cases hx5
        have hd27 : H7 q2 = some (.dT ((wsOf rs).map fun k => (k, .ref (A (true, k))))) := e4.obj hd2 (by simp; exact ⟨Ne.symm q12, Ne.symm q32⟩)
        have hht : H7 (A (true, k')) = some (.lst (cont (true, k'))) := e4.obj (cs5.at_ _ hint) (nA _ hint)
        have hcn : TAs .str H7 (cont (true, k')) ((sel k' 0 rs).map fun p => p.2.1) := TAs.kp (cs5.c true k' hin) e4
        have hsl := sel_len k' rs 0
        refine ⟨_, rfl, _, rfl, q1, .ref (A (false, k')), rfl, .inr ⟨_, k', kq, .inr ⟨od, e3⟩, rfl, hkq, by rw [valV_mapF, if_pos hin]⟩, _, rfl, _, rfl, q2, .ref (A (true, k')), rfl, dgT hd27 hkq (by rw [valV_mapF, if_pos hin]), _, _, _, rfl, hht, hcn, ?_, ?_, fun sw H8 hsw k8 => ?_⟩
        · intro t ht
          obtain ⟨p, hp, rfl⟩ := List.mem_map.mp ht
          obtain ⟨s0, ks0, e0, _⟩ := (hok p.2 (sel_mem hp).1).hd
          exact ⟨s0, ks0, e0⟩
        · rw [List.length_map]; omega
        · rw [List.map_map] at hsw
          walk_at "go"
          intro t H9 n9 k9 h9
          have e39 : H9 q3 = some (.dT (((wsOf rs).take j).map fun k => (k, .ref (F k)))) := k9.obj0 (k8.obj0 e1)
          have e19 := k9.obj0 (k8.obj0 e3)
          refine ⟨_, rfl, _, rfl, q3, kq, _, k', rfl, rfl, e39, k9.tup (k8.tup hkq), by rw [List.length_map, List.length_take]; omega, fun H10 k10 h10 => ?_⟩
          have hnt : k' ∉ (wsOf rs).take j := nodup_take (nodup_wsOf rs) hk1
          have sw9 := (hsw [q1, q3] (by
            intro b hb
            simp only [List.mem_cons, List.not_mem_nil, or_false] at hb
            rcases hb with rfl | rfl
            · rw [e3]; intro z; cases z
            · rw [e1]; intro z; cases z)).keep k9 (fun a z => by cases z)
          refine ⟨fun x => if x = k' then t else F x, _, ?_, ?_, k10.obj1 e19 (Ne.symm q31), ((e4.trans (k8.any _)).trans (k9.any _)).trans (k10.wk (by simp)), rfl⟩
          · rw [h10, putK_mapF]
            have eadg : adg ((wsOf rs).take j) k' = (wsOf rs).take (j + 1) := by
              unfold adg; rw [if_neg hnt, List.take_add_one, hk1]; rfl
            rw [eadg]
            refine congrArg (fun l => some (HO.dT l)) (List.map_congr_left fun z hz => ?_)
            dsimp only
            by_cases ez : z = k'
            · rw [if_pos ez, if_pos ez]
            · rw [if_neg ez, if_neg ez]
          · intro z hz
            rw [List.take_add_one, hk1] at hz
            dsimp only
            by_cases ez : z = k'
            · subst ez
              rw [if_pos rfl]
              exact ⟨sw, k10.tup h9, sw9.keep k10 (by simp)⟩
            · rw [if_neg ez]
              have hz2 : z ∈ (wsOf rs).take j := by
                rcases List.mem_append.mp hz with hz | hz
                · exact hz
                · simp at hz; exact absurd hz ez
              obtain ⟨sw', f1, f2⟩ := e2 z hz2
              exact ⟨sw', k10.tup (k9.tup (k8.tup f1)), ((f2.keep k8 (fun a z => by cases z)).keep k9 (fun a z => by cases z)).keep k10 (by simp)⟩
      · rintro σ H7 ⟨F, o5, e1, e2, e3, e4, rfl⟩
        rw [List.length_map, List.take_length] at e1 e2
        intro H8 k8 h8
        refine ⟨_, rfl, h q3 H8 ⟨F, k8.obj1 e1 q31, fun k' hin => ?_⟩ ?_⟩
        · obtain ⟨sw, f1, f2⟩ := e2 k' hin
          have hinf := (cs5.m false k').mp hin
          have nA : A (false, k') ∉ [q1, q3] := fun z => by
            have hx5 := cs5.at_ _ hinf
            simp only [List.mem_cons, List.not_mem_nil, or_false] at z
            rcases z with z | z
            · rw [z, hd1] at hx5; cases hx5
            · rw [z, h5] at hx5; cases hx5
          have k58 : Kp [q1, q3] H5 H8 := e4.trans (k8.wk (by simp))
          have hcc : Codes H8 [] (cont (false, k')) (sel k' 0 rs) := Codes.keep k58 (fun a ha => .inr fun l e => by
            simp only [List.mem_cons, List.not_mem_nil, or_false] at ha
            rcases ha with rfl | rfl
            · rw [hd1] at e; cases e
            · rw [h5] at e; cases e) (fun a z => by cases z) (cs5.c false k' hin)
          obtain ⟨sq, g1, g2, g3⟩ := f2.keep k8 (by simp)
          exact ⟨_, sw, _, k8.tup f1, k58.obj (cs5.at_ _ hinf) nA, hcc, sq, by simp, g2, g3⟩
        · have k58 : Kp [q1, q3] H5 H8 := e4.trans (k8.wk (by simp))
          have n0 : H q1 = none := n1
          have n3 : H q3 = none := cs.kp.fr _ n5
          exact (((cs5.kp.any [q1, q3]).trans k58).sub fun c hc => by
            simp only [List.mem_cons, List.not_mem_nil, or_false] at hc
            rcases hc with rfl | rfl
            · exact .inr n0
            · exact .inr n3)
end
end GT
/-! GtW: the law reads: slots, by_slots, rows_are. -/
namespace GT
open PySem L2 GL PyProof.Rows RT
/-! tactics: a fact of the heap by what was kept; the reading's small steps -/
local macro_rules | `(tactic| walk_at "hp") => `(tactic| first | assumption | (refine Kp.tup (by assumption) ?_; walk_at "hp") | (refine Kp.obj0 (by assumption) ?_; walk_at "hp") | (refine Kp.obj1 (by assumption) ?_ (by first | assumption | (apply Ne.symm; assumption)); walk_at "hp"))
local macro_rules | `(tactic| walk_at "go") => `(tactic| repeat (first | (refine And.intro ?_ ?_; (first | rfl | walk_at "hp" | decide | (refine Or.inl ?_; walk_at "hp") | (refine Or.inr ?_; walk_at "hp") | (refine SqL.of ?_; walk_at "hp") | exact Nat.le_of_ble_eq_true rfl | exact kvS _ | exact kvI _ | exact cmulL rfl | exact cmulR rfl | exact cpw rfl | exact cdv rfl | omega | (dsimp only; first | decide | omega))) | apply Exists.intro))
local macro_rules | `(tactic| walk_at "kp") => `(tactic| first | assumption | exact Kp.refl _ _ | (refine Kp.trans ?_ (Kp.wk (by assumption) (by simp)); walk_at "kp"))
local macro_rules | `(tactic| walk_at "nn") => `(tactic| first | assumption | (refine Kp.fr (by assumption) _ ?_; walk_at "nn"))

theorem slkF_same (x : Str) : ∀ (l : List Str) (i : Nat), l.Nodup → (slkF i l).map (fun kv => if kv.1 = (.inr x : L2.Key) then (kv.1, V.int ((i + l.idxOf x : Nat) : Int)) else kv) = slkF i l
  | [], _, _ => rfl
  | y :: r, i, nd => by
    have nd' := List.nodup_cons.mp nd
    show (if (.inr y : L2.Key) = .inr x then ((.inr y : L2.Key), V.int ((i + (y :: r).idxOf x : Nat) : Int)) else (.inr y, .int ((i : Nat) : Int))) :: (slkF (i + 1) r).map _ = (.inr y, .int ((i : Nat) : Int)) :: slkF (i + 1) r
    by_cases e : y = x
    · subst e
      rw [if_pos rfl]
      have e0 : (y :: r).idxOf y = 0 := by simp
      rw [e0, Nat.add_zero]
      congr 1
      have : ∀ (r : List Str) (i : Nat) (z : V), y ∉ r → (slkF i r).map (fun kv => if kv.1 = (.inr y : L2.Key) then (kv.1, z) else kv) = slkF i r := by
        intro r
        induction r with
        | nil => intro i z _; rfl
        | cons w r ih =>
          intro i z hn
          show (if (.inr w : L2.Key) = .inr y then ((.inr w : L2.Key), z) else (.inr w, .int ((i : Nat) : Int))) :: (slkF (i + 1) r).map _ = _
          rw [if_neg (fun q => hn (by rw [Sum.inr.inj q]; exact List.mem_cons_self)), ih (i + 1) z fun q => hn (List.mem_cons_of_mem _ q)]
          rfl
      exact this r (i + 1) _ nd'.1
    · rw [if_neg (fun z => e (Sum.inr.inj z))]
      have e1 : (y :: r).idxOf x = r.idxOf x + 1 := by
        rw [List.idxOf_cons]
        have : (y == x) = false := by simpa using e
        rw [this]; rfl
      rw [e1]
      have e2 : i + (r.idxOf x + 1) = i + 1 + r.idxOf x := by omega
      rw [e2, slkF_same x r (i + 1) nd'.2]
theorem slk_get_put {l : List Str} (nd : l.Nodup) (x : Str) : putK (slk l) (.inr x : L2.Key) ((valV (slk l) (.inr x : L2.Key)).getD (.int ((l.length : Nat) : Int))) = slk (ad l x) := by
  by_cases h : x ∈ l
  · rw [slk_get h]
    have e : ad l x = l := by unfold ad; rw [if_pos h]
    rw [e]
    unfold putK
    rw [valV_any, slk_get h]
    have e1 : (some (V.int ((sl l x : Nat) : Int))).isSome = true := rfl
    rw [if_pos e1]
    have := slkF_same x l 0 nd
    rw [Nat.zero_add] at this
    exact this
  · have e0 : valV (slk l) (.inr x : L2.Key) = none := by rw [valV_slkF, if_neg h]
    have e : ad l x = l ++ [x] := by unfold ad; rw [if_neg h]
    rw [e0, e]
    exact slk_put h
section
variable {P : Program} {w : World} {K : PySem.W.Frag} {mg : Str → Option Value} {base : Heap} {C d : Addr} {es : Array DictEntry} {n : Nat} {k : Nat}
abbrev s_slots : Stmt := (topS 28)
abbrev N_slots : List Str := ["_law_terms", "_law_slots_here", "_law_due", "_law_term"]
theorem sc_slots : FnScope N_slots ["_law_terms"] (defScope s_slots) := ⟨rfl, rfl, rfl, by decide +kernel, rfl, by decide +kernel, by decide +kernel⟩

def spSlots : Sp := fun vs H Q _ => ∃ (a : Addr) (xs : List V) (ts : List GT.T), vs = [.ref a] ∧ H a = some (.lst xs) ∧ TAs .str H xs ts ∧ sizes ts ≤ 1000 ∧
  ∀ p H', H' p = some (.dK (slk (names (occs ts)))) → H p = none → Kp [] H H' → Q (.ref p) H'
def Wsl (a p q : Addr) (H2 : Hp) (g : List Str) : Nat → L2.St → Hp → Prop := fun m σ H' => ∃ (done : List Str) (ws : List V) (us : List GT.T) (o : Option V), done.Nodup ∧ H' p = some (.dK (slk done)) ∧ H' q = some (.lst ws) ∧ TAs .str H' ws us ∧ m = sizes us ∧
  (occs us.reverse).foldl ad done = g ∧ done.length + sizes us ≤ 1000 ∧ Kp [p, q] H2 H' ∧ σ = [some (.ref a), some (.ref p), some (.ref q), o]
theorem ok_slots (tx : Txt K w mg C d es n) (D : DefAt K mg "_law_slots" s_slots ["_law_terms"]) : Def P w K mg base "_law_slots" (k + 1) ["_law_terms"] spSlots := by
  refine D.ok sc_slots (fun vs H Q E h => ?_) (fun f cdv A outer s H vs Q E hr h => ?_)
  · obtain ⟨a, xs, ts, rfl, _⟩ := h; rfl
  · obtain ⟨a, xs, ts, rfl, ha, ht, hsz, h⟩ := h
    have hu := hu_of hr
    refine ⟨_, (pss_cons (ps_set (i := 1) sc_slots.nd rfl (by first | exact .inl rfl | exact .inr rfl) pe_dnewKN)
      (pss_cons ((lcV (x1 := "_law_term") (i := 3) rfl sc_slots.nd (by rfl) tx.reversed_ (pv 0) (blkOk_by (own := [("_law_term", 3)]) (N := N_slots) (sc := defScope s_slots) (by decide +kernel)) (fun _ _ _ _ _ => pg_name (i := 3) sc_slots.nd rfl (Or.inl rfl)) (fun _ _ _ _ _ => (pv 3))).ps (i := 2) sc_slots.nd rfl rfl (sw_true rfl rfl rfl (by decide +kernel)))
      (pss_cons (ps_whileN PassesOwn.never (pt_cmpR op_gt (pe_len (by rfl) tx.len_ (pv 2)) pe_int (nomark _)) (pss_cons (ps_set (i := 3) sc_slots.nd rfl (by first | exact .inl rfl | exact .inr rfl) (pe_pop (pv 2)))
      (pss_cons (ps_if (pt_cmpR op_eq (pe_tc (n := 0) (pv 3)) pe_str (nomark _)) (pss_one (ps_putK hu (pv 1) (pe_tc (n := 1) (pv 3)) (pe_dget2 hu (pv 1) (pe_tc (n := 1) (pv 3)) (pe_lenD (by rfl) tx.len_ (pv 1)) ⟨rfl, rfl, rfl, rfl⟩))) pss_nil)
      (pss_one (ps_if (pt_cmpR op_eq (pe_tc (n := 0) (pv 3)) pe_str (nomark _)) (pss_one (ps_expr (pe_ext (pv 2) (pe_lrev rfl (by rfl) tx.list_ (by rfl) tx.reversed_ (pe_tc (n := 2) (pv 3)))))) pss_nil)))))
      (pss_one (ps_ret (pv 1)))))), ?_⟩
    have hxl := ht.len
    have hsl := sizes_len ts
    walk_at "go"
    intro p H1 n1 k1 h1
    refine ⟨_, rfl, a, xs, rfl, k1.obj0 ha, [], _, LcOk.mk' (fun m ys H => ys = xs.reverse.take m ∧ m ≤ xs.length) (by omega) (by simp) ⟨rfl, Nat.zero_le _⟩ (fun m ys H H' D hD kk r k => r) ?_ ?_ ?_, by simp⟩
    · rintro m ys H ⟨rfl, hm⟩; simp; omega
    · rintro m ys H2 hm kk ⟨rfl, hm2⟩ y hy
      exact ⟨_, rfl, Kp.refl _ _, kk, by rw [List.take_add_one, hy]; rfl, hm⟩
    rintro ys H2 q n2 k2 ⟨rfl, _⟩ h2
    have h2 : H2 q = some (.lst xs.reverse) := by
      have e : xs.reverse.take xs.length = xs.reverse := by rw [← List.length_reverse (as := xs), List.take_length]
      rw [h2, e]
    have npq : p ≠ q := fun e => by rw [e] at h1; rw [h1] at n2; cases n2
    have nqp : q ≠ p := Ne.symm npq
    have h0 : Wsl a p q H2 (names (occs ts)) (sizes ts.reverse) [some (.ref a), some (.ref p), some (.ref q), none] H2 :=
      ⟨[], _, ts.reverse, none, List.nodup_nil, k2.obj0 h1, h2, (ht.kp (k1.trans k2)).rev, rfl, by rw [List.reverse_reverse]; rfl, by rw [sizes_rev]; simpa using hsz, Kp.refl _ _, rfl⟩
    refine ⟨⟨Wsl a p q H2 (names (occs ts)), ⟨_, h0⟩, ?_⟩⟩
    rintro m σ H3 ⟨done, ws, us, o, nd, e1, e2, e3, rfl, e4, e5, k3, rfl⟩
    walk_at "go"
    refine it2 (fun c => ?_) (fun c => ?_)
    · have hne : us.length ≠ 0 := by
        intro z; have hl := e3.len; rw [z] at hl; rw [hl] at c; simp at c
      obtain ⟨us', t, ws', v, rfl, rfl, f1, f2⟩ := e3.last hne
      refine ⟨fun σ' H' => Lp (∃ m', m' < sizes (us' ++ [t]) ∧ Wsl a p q H2 (names (occs ts)) m' σ' H'), fun _ _ z => z.ex, ?_⟩
      refine ⟨_, rfl, q, _, v, rfl, e2, by simp, fun H4 k4 h4 => ?_⟩
      rw [List.dropLast_concat] at h4
      have g1 := k4.obj1 e1 npq
      have g2 := f1.kp k4
      have g3 := f2.kp k4
      rw [sizes_append] at e5 ⊢
      rw [List.reverse_append] at e4
      have kk : Kp [p, q] H2 H4 := by walk_at "kp"
      cases t with
      | any x =>
        obtain ⟨b, rfl, hb⟩ := g3
        refine ⟨_, rfl, b, _, _, rfl, hb, rfl, ?_⟩
        walk_at "go"
        refine ⟨.inl ⟨_, .inl g1⟩, ?_⟩
        walk_at "go"
        refine ⟨dgS g1 rfl, ?_⟩
        rw [slkF_len]
        walk_at "go"
        have hl9 := slkF_len done 0
        refine ⟨by rw [hl9]; omega, fun H5 k5 h5 => ?_⟩
        rw [slk_get_put nd] at h5
        have hb5 := k5.tup hb
        walk_at "go"
        refine ⟨⟨sizes us', ?_, ad done x, ws', us', _, ad_nodup nd x, h5, k5.obj1 h4 nqp, g2.kp k5, rfl, ?_, ?_, by walk_at "kp", rfl⟩⟩
        · simp only [sizes, GT.T.size]; omega
        · exact e4
        · have := ad_len done x; simp only [sizes, GT.T.size] at e5; omega
      | num x =>
        obtain ⟨b, rfl, hb⟩ := g3
        refine ⟨_, rfl, b, _, _, rfl, hb, rfl, ?_⟩
        walk_at "go"
        refine ⟨⟨sizes us', ?_, done, ws', us', _, nd, g1, h4, g2, rfl, ?_, ?_, by walk_at "kp", rfl⟩⟩
        · simp only [sizes, GT.T.size]; omega
        · exact e4
        · simp only [sizes, GT.T.size] at e5; omega
      | app x ks =>
        obtain ⟨b, b2, vk, rfl, hb, hb2, hk⟩ := g3
        refine ⟨_, rfl, b, _, _, rfl, hb, rfl, ?_⟩
        walk_at "go"
        intro r H5 n5 k5 h5
        have nrq : q ≠ r := fun e => by rw [← e] at n5; rw [n5] at h4; cases h4
        have hq5 := k5.obj0 h4
        have hl1 := hk.len
        have hl2 := f1.len
        have s1 := sizes_len ks
        have s2 := sizes_len us'
        simp only [sizes, GT.T.size] at e5
        refine ⟨r, ws', vk.reverse, rfl, hq5, h5, ?_, fun H6 k6 h6 => ?_⟩
        · rw [List.length_reverse]; omega
        · refine ⟨⟨sizes (us' ++ ks.reverse), ?_, done, _, us' ++ ks.reverse, _, nd, k6.obj1 (k5.obj0 g1) npq, h6, ((g2.kp k5).kp k6).append (((hk.kp k5).kp k6).rev), rfl, ?_, ?_, by walk_at "kp", rfl⟩⟩
          · rw [sizes_append, sizes_rev]; simp only [sizes, GT.T.size]; omega
          · rw [List.reverse_append, List.reverse_reverse, occs_append]
            rw [List.reverse_cons, List.reverse_nil, List.nil_append, occs_append] at e4
            simpa [occs, GT.T.occ] using e4
          · rw [sizes_append, sizes_rev]; omega
    · have hz : us = [] := by
        cases us with
        | nil => rfl
        | cons t r =>
          have hl := e3.len; rw [hl] at c; simp at c
      subst hz
      have e4 : done = names (occs ts) := e4
      subst e4
      refine ⟨_, rfl, h p H3 e1 n1 ?_⟩
      have k13 : Kp [p] H1 H3 := ((k2.any [p, q]).trans k3).sub fun c hc => by
        rcases List.mem_cons.mp hc with hc | hc
        · exact .inl (by rw [hc]; exact List.mem_cons_self)
        · rw [List.mem_singleton] at hc; rw [hc]; exact .inr n2
      exact ((k1.any [p]).trans k13).one rfl n1
abbrev s_by_slots : Stmt := (topS 29)
abbrev N_by_slots : List Str := ["_law_term", "_law_slots_here", "_law_kid"]
theorem sc_by_slots : FnScope N_by_slots ["_law_term", "_law_slots_here"] (defScope s_by_slots) := ⟨rfl, rfl, rfl, by decide +kernel, rfl, by decide +kernel, by decide +kernel⟩

def spBySlots (j : Nat) : Sp := fun vs H Q _ => ∃ (v : V) (t : GT.T) (a : Addr) (ns : List Str), vs = [v, .ref a] ∧ TA .str H v t ∧ H a = some (.dK (slk ns)) ∧ (∀ x ∈ t.occ, x ∈ ns) ∧ t.size ≤ j ∧
  ∀ u H', TA (fun x => .int ((sl ns x : Nat) : Int)) H' u t → Kp [] H H' → Q u H'
theorem step_by_slots (tx : Txt K w mg C d es n) {j : Nat} (hj1 : j ≤ 1000) (d_by_slots : Def P w K mg base "_law_by_slots" k ["_law_term", "_law_slots_here"] (spBySlots j)) (D : DefAt K mg "_law_by_slots" s_by_slots ["_law_term", "_law_slots_here"]) : Def P w K mg base "_law_by_slots" (k + 1) ["_law_term", "_law_slots_here"] (spBySlots (j + 1)) := by
  refine D.ok sc_by_slots (fun vs H Q E h => ?_) (fun f cdv A outer s H vs Q E hr h => ?_)
  · obtain ⟨v, t, a, ns, rfl, _⟩ := h; rfl
  · obtain ⟨v, t, da, ns, rfl, ht, hd, hx, hj, h⟩ := h
    have hu := hu_of hr
    refine ⟨_, (pss_cons (ps_if (pt_cmpR op_eq (pe_tc (n := 0) (pv 0)) pe_str (nomark _)) (pss_one (ps_ret (pe_tupN (pa_cons pe_str (pa_cons (pe_dget hu (pv 1) (pe_tc (n := 1) (pv 0)) (fun _ _ => rfl)) pa_nil))))) pss_nil)
      (pss_cons (ps_if (pt_cmpR op_eq (pe_tc (n := 0) (pv 0)) pe_str (nomark _)) (pss_one (ps_ret (pv 0))) pss_nil)
      (pss_one (ps_ret (pe_tupN (pa_cons pe_str (pa_cons (pe_tc (n := 1) (pv 0)) (pa_cons (pe_tuple (by rfl) tx.tuple_ (lcT (x1 := "_law_kid") (i := 2) rfl sc_by_slots.nd (pe_tc (n := 2) (pv 0)) (blkOk_by (own := [("_law_kid", 2)]) (N := N_by_slots) (sc := defScope s_by_slots) (by decide +kernel)) (fun _ _ _ _ _ => pg_name (i := 2) sc_by_slots.nd rfl (Or.inl rfl)) (fun _ _ _ _ _ => (pe_cl d_by_slots (hr.mono (by omega)) (pa_cons (pv 2) (pa_cons (pv 1) pa_nil))))).pe) pa_nil)))))))), ?_⟩
    cases t with
    | any x =>
      obtain ⟨a, rfl, ha⟩ := ht
      walk_at "go"
      refine ⟨dgS hd (slk_get (hx x (by simp [GT.T.occ]))), ?_⟩
      walk_at "go"
      intro p H1 n1 k1 h1
      exact h _ _ ⟨p, rfl, h1⟩ k1
    | num x =>
      obtain ⟨a, rfl, ha⟩ := id ht
      walk_at "go"
      exact h _ _ ⟨a, rfl, ha⟩ (Kp.refl _ _)
    | app x ks =>
      obtain ⟨a, b, vk, rfl, ha, hb, hk⟩ := ht
      have hl := hk.len
      simp only [GT.T.size] at hj
      have hlen := sizes_len ks
      walk_at "go"
      refine ⟨LcOk.mk' (S := []) (fun m ys H => TAs (fun x => .int ((sl ns x : Nat) : Int)) H ys (ks.take m) ∧ m ≤ ks.length) (by omega) (by simp) ⟨trivial, Nat.zero_le _⟩ (fun m ys H H' D hD kk r k => ⟨r.1.kp k, r.2⟩) ?_ ?_ ?_, by simp⟩
      · rintro m ys H ⟨r, hm⟩
        rw [r.len, List.length_take]; omega
      · rintro m ys H2 hm kk ⟨r, hm2⟩ y hy
        obtain ⟨t, h1, h2⟩ := hk.get hy
        have hsz := sizes_mem (List.mem_of_getElem? h1)
        refine ⟨_, rfl, _, rfl, y, t, da, ns, rfl, h2.kp kk, kk.obj0 hd, fun z hz => hx z (by simp only [GT.T.occ]; exact occ_take h1 hz), by omega, fun u H' hu2 k => ⟨k, kk.trans k, ?_, by omega⟩⟩
        rw [take_succ h1]
        exact (r.kp k).snoc hu2
      · rintro ys H2 p hp kk ⟨r, _⟩ e
        rw [hl, List.take_length] at r
        walk_at "go"
        intro p3 H3 n3 k3 h3
        walk_at "go"
        intro p4 H4 n4 k4 h4
        exact h _ _ ⟨p4, p3, ys, rfl, h4, k4.tup h3, (r.kp k3).kp k4⟩ ((kk.trans k3).trans k4)
end
end GT
/-! GtX: the law reads: rows_are. -/
namespace GT
open PySem L2 GL PyProof.Rows RT
/-! tactics: a fact of the heap by what was kept; the reading's small steps -/
local macro_rules | `(tactic| walk_at "hp") => `(tactic| first | assumption | (refine Kp.tup (by assumption) ?_; walk_at "hp") | (refine Kp.obj0 (by assumption) ?_; walk_at "hp") | (refine Kp.obj1 (by assumption) ?_ (by first | assumption | (apply Ne.symm; assumption)); walk_at "hp"))
local macro_rules | `(tactic| walk_at "kp") => `(tactic| first | assumption | exact Kp.refl _ _ | (refine Kp.trans ?_ (Kp.wk (by assumption) (by simp)); walk_at "kp"))
local macro_rules | `(tactic| walk_at "nn") => `(tactic| first | assumption | (refine Kp.fr (by assumption) _ ?_; walk_at "nn"))
local macro_rules | `(tactic| walk_at "go") => `(tactic| repeat (first | (refine And.intro ?_ ?_; (first | rfl | walk_at "hp" | decide | (refine Or.inl ?_; walk_at "hp") | (refine Or.inr ?_; walk_at "hp") | (refine SqL.of ?_; walk_at "hp") | exact Nat.le_of_ble_eq_true rfl | exact kvS _ | exact kvI _ | exact cmulL rfl | exact cmulR rfl | exact cpw rfl | exact cdv rfl | exact Ty.int _ | exact Ty.str _ | exact Ty.bl _ | exact Ty.lst (by walk_at "hp") | exact Ty.tup (by walk_at "hp") | walk_at "kp" | omega | (dsimp only; first | decide | omega))) | apply Exists.intro))

def sz1 : List (L2.Key × V) := [(.inr "slot", .int 3), (.inr "same", .int 3), (.inr "num", .int 3), (.inr "app", .int 5), (.inr "frame", .int 1), (.inr "new", .int 2), (.inr "put", .int 3), (.inr "putnum", .int 3), (.inr "build", .int 5)]
def sz2 : List (L2.Key × V) := [(.inr "call", .int 3), (.inr "jump", .int 3), (.inr "not", .int 3), (.inr "keep", .int 1), (.inr "equal", .int 1), (.inr "reckon", .int 1), (.inr "less", .int 1), (.inr "atmost", .int 1)]
def sz3 : List (L2.Key × V) := [(.inr "back", .int 1)]
def szs : List (L2.Key × V) := mergeK (mergeK (mergeK [] sz1) (mergeK [] sz2)) (mergeK [] sz3)
theorem szs_get (r : Row) : valV szs (.inr r.word : L2.Key) = some (.int ((r.ks.length : Nat) : Int)) := by
  cases r with
  | slot w c s =>
    cases w
    · show valV szs (.inr "slot" : L2.Key) = some (.int 3); decide +kernel
    · show valV szs (.inr "same" : L2.Key) = some (.int 3); decide +kernel
  | deed q => cases q <;> decide +kernel
  | num c n => show valV szs (.inr "num" : L2.Key) = some (.int 3); decide +kernel
  | app c g m f => show valV szs (.inr "app" : L2.Key) = some (.int 5); decide +kernel
  | frame => show valV szs (.inr "frame" : L2.Key) = some (.int 1); decide +kernel
  | new s => show valV szs (.inr "new" : L2.Key) = some (.int 2); decide +kernel
  | put c s => show valV szs (.inr "put" : L2.Key) = some (.int 3); decide +kernel
  | putnum c s => show valV szs (.inr "putnum" : L2.Key) = some (.int 3); decide +kernel
  | build c g m f => show valV szs (.inr "build" : L2.Key) = some (.int 5); decide +kernel
  | call g m => show valV szs (.inr "call" : L2.Key) = some (.int 3); decide +kernel
  | jump g m => show valV szs (.inr "jump" : L2.Key) = some (.int 3); decide +kernel
  | nt g m => show valV szs (.inr "not" : L2.Key) = some (.int 3); decide +kernel
  | back => show valV szs (.inr "back" : L2.Key) = some (.int 1); decide +kernel
section
variable {P : Program} {w : World} {K : PySem.W.Frag} {mg : Str → Option Value} {base : Heap} {C d : Addr} {es : Array DictEntry} {n : Nat} {k : Nat}
abbrev s_rows_are : Stmt := (topS 30)
abbrev N_rows_are : List Str := ["_law_rows", "_law_sizes", "_law_row", "_law_k", "_law_sign"]
theorem sc_rows_are : FnScope N_rows_are ["_law_rows"] (defScope s_rows_are) := ⟨rfl, rfl, rfl, by decide +kernel, rfl, by decide +kernel, by decide +kernel⟩

def spRowsAre : Sp := fun vs H Q _ => ∃ (a : Addr) (xs : List V) (rs : List Row), vs = [.ref a] ∧ H a = some (.lst xs) ∧ RowsAt H xs rs ∧ ∀ H', Kp [] H H' → Q (.bl true) H'
theorem ok_rows_are (tx : Txt K w mg C d es n) (d_whole : Def P w K mg base "_law_whole" k ["_law_found"] spWhole) (D : DefAt K mg "_law_rows_are" s_rows_are ["_law_rows"]) : Def P w K mg base "_law_rows_are" (k + 1) ["_law_rows"] spRowsAre := by
  refine D.ok sc_rows_are (fun vs H Q E h => ?_) (fun f cdv A outer s H vs Q E hr h => ?_)
  · obtain ⟨a, xs, rs, rfl, _⟩ := h; rfl
  · obtain ⟨a, xs, rs, rfl, ha, hrs, h⟩ := h
    have hu := hu_of hr
    refine ⟨_, (pss_cons (ps_if (pt_not (pt_val (pe_isi (by rfl) tx.isinstance_ (pv 0) (pe_bltn (v := .ty "list") (by rfl) tx.list_ boot_list rfl)))) (pss_one (ps_ret pe_bl)) pss_nil)
      (pss_cons (ps_set (i := 1) sc_rows_are.nd rfl (by first | exact .inl rfl | exact .inr rfl) (pe_dispN (pps_cons pe_str pe_int (pps_cons pe_str pe_int (pps_cons pe_str pe_int (pps_cons pe_str pe_int (pps_cons pe_str pe_int (pps_cons pe_str pe_int (pps_cons pe_str pe_int (pps_cons pe_str pe_int (pps_cons pe_str pe_int pps_nil))))))))) (by rfl) (by rfl) (fun z => by cases z) (by decide)))
      (pss_cons (ps_expr (pe_upd (pv 1) (pe_dispN (pps_cons pe_str pe_int (pps_cons pe_str pe_int (pps_cons pe_str pe_int (pps_cons pe_str pe_int (pps_cons pe_str pe_int (pps_cons pe_str pe_int (pps_cons pe_str pe_int (pps_cons pe_str pe_int pps_nil)))))))) (by rfl) (by rfl) (fun z => by cases z) (by decide))))
      (pss_cons (ps_expr (pe_upd (pv 1) (pe_dispN (pps_cons pe_str pe_int pps_nil) (by rfl) (by rfl) (fun z => by cases z) (by decide))))
      (pss_cons (ps_forL PassesOwn.never rfl (pv 0) (pg_name (i := 2) sc_rows_are.nd rfl (by first | exact .inl rfl | exact .inr rfl)) (pss_cons (ps_if (PW.pt (pw_or (pt_not (pt_val (pe_isi (by rfl) tx.isinstance_ (pv 2) (pe_bltn (v := .ty "tuple") (by rfl) tx.tuple_ boot_tuple rfl)))) (pw_or (pt_cmpR op_eq (pe_len (by rfl) tx.len_ (pv 2)) pe_int (nomark _)) (pw_or (pt_cmp (pc_dnotin hu (pe_tc (n := 0) (pv 2)) (pv 1)) (by rfl)) (pw_or1 (pt_cmpR op_ne (pe_len (by rfl) tx.len_ (pv 2)) (pe_dget hu (pv 1) (pe_tc (n := 0) (pv 2)) (fun _ _ => rfl)) (nomark _))))))) (pss_one (ps_ret pe_bl)) pss_nil)
      (pss_one (ps_forR2 PassesOwn.never rfl (by rfl) tx.range_ pe_int (pe_len (by rfl) tx.len_ (pv 2)) (pg_name (i := 3) sc_rows_are.nd rfl (by first | exact .inl rfl | exact .inr rfl)) (pss_cons (ps_set (i := 4) sc_rows_are.nd rfl (by first | exact .inl rfl | exact .inr rfl) (pe_or (pe_and (pe_cmpR (op_inS ["app", "build"]) (pe_tc (n := 0) (pv 2)) (pe_tupN (pa_cons pe_str (pa_cons pe_str pa_nil))) (by rfl)) (pe_one (pe_cmpR op_eq (pv 3) pe_int (nomark _)))) (pe_one (pe_and (pe_cmpR (op_inS ["call", "jump", "not"]) (pe_tc (n := 0) (pv 2)) (pe_tupN (pa_cons pe_str (pa_cons pe_str (pa_cons pe_str pa_nil)))) (by rfl)) (pe_one (pe_cmpR op_eq (pv 3) pe_int (nomark _)))))))
      (pss_one (ps_if (PW.pt (pw_or (pt_cmpR op_ne (pv 4) (pe_isi (by rfl) tx.isinstance_ (pe_it (pv 2) (pv 3)) (pe_bltn (v := .ty "str") (by rfl) tx.str_ boot_str rfl)) (nomark _)) (pw_or1 (PW.pt (pw_and (pt_not (pt_val (pv 4))) (pw_and1 (pt_not (pt_val (pe_cl d_whole (hr.mono (by omega)) (pa_cons (pe_it (pv 2) (pv 3)) pa_nil)))))))))) (pss_one (ps_ret pe_bl)) pss_nil)))))))
      (pss_one (ps_ret pe_bl))))))), ?_⟩
    refine ⟨_, rfl, "list", true, .lst ha, by decide +kernel, _, rfl, iteF ?_⟩
    intro p1 H1 n1 k1 h1
    refine ⟨h1, sz1, rfl, by decide, fun H2 k2 h2 => ?_⟩
    walk_at "go"
    intro p2 H3 n3 k3 h3
    have n12 : p1 ≠ p2 := by rintro rfl; rw [h2] at n3; cases n3
    refine ⟨h3, sz2, rfl, by decide, fun H4 k4 h4 => ?_⟩
    have h24 := k4.obj1 (k3.obj0 h2) n12
    refine ⟨p2, _, _, rfl, h24, h4, n12, by decide +kernel, fun H5 k5 h5 => ?_⟩
    walk_at "go"
    intro p3 H6 n6 k6 h6
    have n13 : p1 ≠ p3 := by rintro rfl; rw [h5] at n6; cases n6
    refine ⟨h6, sz3, rfl, by decide, fun H7 k7 h7 => ?_⟩
    have h57 := k7.obj1 (k6.obj0 h5) n13
    refine ⟨p3, _, _, rfl, h57, h7, n13, by decide +kernel, fun H8 k8 h8 => ?_⟩
    have h8 : H8 p1 = some (.dK szs) := h8
    have kk : Kp [] H H8 := by
      have k12 : Kp [] H H2 := ((k1.any [p1]).trans k2).one rfl n1
      have k34 : Kp [] H2 H4 := ((k3.any [p2]).trans k4).one rfl n3
      have k14 : Kp [] H H5 := (((k12.trans k34).any [p1]).trans k5).one rfl n1
      have k67 : Kp [] H5 H7 := ((k6.any [p3]).trans k7).one rfl n6
      exact (((k14.trans k67).any [p1]).trans k8).one rfl n1
    have ha8 := kk.obj0 ha
    have hrs8 := hrs.kp kk
    clear k1 k2 k3 k4 k5 k6 k7 k8
    walk_at "go"
    refine ⟨⟨fun m σ H' => Kp [] H8 H' ∧ ∃ o2 o3 o4, σ = [some (.ref a), some (.ref p1), o2, o3, o4], ⟨Kp.refl _ _, _, _, _, rfl⟩, ?_, ?_, ?_⟩⟩
    · rintro m σ H' ⟨k9, o2, o3, o4, rfl⟩
      exact k9.obj0 ha8
    · rintro m y σ H9 hy ⟨k9, o2, o3, o4, rfl⟩
      have hm : m < rs.length := by rw [← hrs8.len]; exact (List.getElem?_eq_some_iff.mp hy).1
      obtain ⟨v, hv1, b, rfl, hb⟩ := hrs8.get (List.getElem?_eq_getElem hm)
      have ey : V.ref b = y := by rw [hv1] at hy; exact Option.some.inj hy
      subst ey
      have hb9 := k9.tup hb
      have hg := szs_get rs[m]
      have hd9 := k9.obj0 h8
      generalize rs[m] = r at hb hb9 hg
      cases r with
      | slot w c s2 =>
        cases w with
        | false =>
          have hg : valV szs (.inr "slot" : L2.Key) = some (.int 3) := hg
          walk_at "go"
          refine ⟨dgS hd9 hg, ?_⟩
          walk_at "go"
          refine ⟨dgS hd9 hg, ?_⟩
          walk_at "go"
          refine ⟨⟨fun q σ' H' => Kp [] H8 H' ∧ ∃ o3 o4, σ' = [some (.ref a), some (.ref p1), some (.ref b), o3, o4], ⟨k9, _, _, rfl⟩, ?_, ?_⟩⟩
          · rintro q σ' H10 hq ⟨k10, o3, o4, rfl⟩
            have hq2 : 1 + q < 3 := hq
            have hb10 := k10.tup hb
            rcases q with _ | _ | q
            case zero =>
              walk_at "go"
              intro pa Ha na ka ha
              walk_at "go"
              first
                | exact rfl
                | (intro pb Hb nb kb hb; walk_at "go"; exact rfl)
            case succ.zero =>
              walk_at "go"
              intro pa Ha na ka ha
              walk_at "go"
              first
                | exact rfl
                | (intro pb Hb nb kb hb; walk_at "go"; exact rfl)
            case succ.succ => omega
          · rintro σ' H10 ⟨k10, o3, o4, rfl⟩
            exact ⟨k10, _, _, _, rfl⟩
        | true =>
          have hg : valV szs (.inr "same" : L2.Key) = some (.int 3) := hg
          walk_at "go"
          refine ⟨dgS hd9 hg, ?_⟩
          walk_at "go"
          refine ⟨dgS hd9 hg, ?_⟩
          walk_at "go"
          refine ⟨⟨fun q σ' H' => Kp [] H8 H' ∧ ∃ o3 o4, σ' = [some (.ref a), some (.ref p1), some (.ref b), o3, o4], ⟨k9, _, _, rfl⟩, ?_, ?_⟩⟩
          · rintro q σ' H10 hq ⟨k10, o3, o4, rfl⟩
            have hq2 : 1 + q < 3 := hq
            have hb10 := k10.tup hb
            rcases q with _ | _ | q
            case zero =>
              walk_at "go"
              intro pa Ha na ka ha
              walk_at "go"
              first
                | exact rfl
                | (intro pb Hb nb kb hb; walk_at "go"; exact rfl)
            case succ.zero =>
              walk_at "go"
              intro pa Ha na ka ha
              walk_at "go"
              first
                | exact rfl
                | (intro pb Hb nb kb hb; walk_at "go"; exact rfl)
            case succ.succ => omega
          · rintro σ' H10 ⟨k10, o3, o4, rfl⟩
            exact ⟨k10, _, _, _, rfl⟩
      | num c i =>
        have hg : valV szs (.inr "num" : L2.Key) = some (.int 3) := hg
        walk_at "go"
        refine ⟨dgS hd9 hg, ?_⟩
        walk_at "go"
        refine ⟨dgS hd9 hg, ?_⟩
        walk_at "go"
        refine ⟨⟨fun q σ' H' => Kp [] H8 H' ∧ ∃ o3 o4, σ' = [some (.ref a), some (.ref p1), some (.ref b), o3, o4], ⟨k9, _, _, rfl⟩, ?_, ?_⟩⟩
        · rintro q σ' H10 hq ⟨k10, o3, o4, rfl⟩
          have hq2 : 1 + q < 3 := hq
          have hb10 := k10.tup hb
          rcases q with _ | _ | q
          case zero =>
            walk_at "go"
            intro pa Ha na ka ha
            walk_at "go"
            first
              | exact rfl
              | (intro pb Hb nb kb hb; walk_at "go"; exact rfl)
          case succ.zero =>
            walk_at "go"
            intro pa Ha na ka ha
            walk_at "go"
            first
              | exact rfl
              | (intro pb Hb nb kb hb; walk_at "go"; exact rfl)
          case succ.succ => omega
        · rintro σ' H10 ⟨k10, o3, o4, rfl⟩
          exact ⟨k10, _, _, _, rfl⟩
      | app c g m2 f2 =>
        have hg : valV szs (.inr "app" : L2.Key) = some (.int 5) := hg
        walk_at "go"
        refine ⟨dgS hd9 hg, ?_⟩
        walk_at "go"
        refine ⟨dgS hd9 hg, ?_⟩
        walk_at "go"
        refine ⟨⟨fun q σ' H' => Kp [] H8 H' ∧ ∃ o3 o4, σ' = [some (.ref a), some (.ref p1), some (.ref b), o3, o4], ⟨k9, _, _, rfl⟩, ?_, ?_⟩⟩
        · rintro q σ' H10 hq ⟨k10, o3, o4, rfl⟩
          have hq2 : 1 + q < 5 := hq
          have hb10 := k10.tup hb
          rcases q with _ | _ | _ | _ | q
          case zero =>
            walk_at "go"
            intro pa Ha na ka ha
            walk_at "go"
            first
              | exact rfl
              | (intro pb Hb nb kb hb; walk_at "go"; exact rfl)
          case succ.zero =>
            walk_at "go"
            intro pa Ha na ka ha
            walk_at "go"
            first
              | exact rfl
              | (intro pb Hb nb kb hb; walk_at "go"; exact rfl)
          case succ.succ.zero =>
            walk_at "go"
            intro pa Ha na ka ha
            walk_at "go"
            first
              | exact rfl
              | (intro pb Hb nb kb hb; walk_at "go"; exact rfl)
          case succ.succ.succ.zero =>
            walk_at "go"
            intro pa Ha na ka ha
            walk_at "go"
            first
              | exact rfl
              | (intro pb Hb nb kb hb; walk_at "go"; exact rfl)
          case succ.succ.succ.succ => omega
        · rintro σ' H10 ⟨k10, o3, o4, rfl⟩
          exact ⟨k10, _, _, _, rfl⟩
      | frame =>
        have hg : valV szs (.inr "frame" : L2.Key) = some (.int 1) := hg
        walk_at "go"
        refine ⟨dgS hd9 hg, ?_⟩
        walk_at "go"
        refine ⟨dgS hd9 hg, ?_⟩
        walk_at "go"
        refine ⟨⟨fun q σ' H' => Kp [] H8 H' ∧ ∃ o3 o4, σ' = [some (.ref a), some (.ref p1), some (.ref b), o3, o4], ⟨k9, _, _, rfl⟩, ?_, ?_⟩⟩
        · rintro q σ' H10 hq ⟨k10, o3, o4, rfl⟩
          have hq2 : 1 + q < 1 := hq
          omega
        · rintro σ' H10 ⟨k10, o3, o4, rfl⟩
          exact ⟨k10, _, _, _, rfl⟩
      | new s2 =>
        have hg : valV szs (.inr "new" : L2.Key) = some (.int 2) := hg
        walk_at "go"
        refine ⟨dgS hd9 hg, ?_⟩
        walk_at "go"
        refine ⟨dgS hd9 hg, ?_⟩
        walk_at "go"
        refine ⟨⟨fun q σ' H' => Kp [] H8 H' ∧ ∃ o3 o4, σ' = [some (.ref a), some (.ref p1), some (.ref b), o3, o4], ⟨k9, _, _, rfl⟩, ?_, ?_⟩⟩
        · rintro q σ' H10 hq ⟨k10, o3, o4, rfl⟩
          have hq2 : 1 + q < 2 := hq
          have hb10 := k10.tup hb
          rcases q with _ | q
          case zero =>
            walk_at "go"
            intro pa Ha na ka ha
            walk_at "go"
            first
              | exact rfl
              | (intro pb Hb nb kb hb; walk_at "go"; exact rfl)
          case succ => omega
        · rintro σ' H10 ⟨k10, o3, o4, rfl⟩
          exact ⟨k10, _, _, _, rfl⟩
      | put c s2 =>
        have hg : valV szs (.inr "put" : L2.Key) = some (.int 3) := hg
        walk_at "go"
        refine ⟨dgS hd9 hg, ?_⟩
        walk_at "go"
        refine ⟨dgS hd9 hg, ?_⟩
        walk_at "go"
        refine ⟨⟨fun q σ' H' => Kp [] H8 H' ∧ ∃ o3 o4, σ' = [some (.ref a), some (.ref p1), some (.ref b), o3, o4], ⟨k9, _, _, rfl⟩, ?_, ?_⟩⟩
        · rintro q σ' H10 hq ⟨k10, o3, o4, rfl⟩
          have hq2 : 1 + q < 3 := hq
          have hb10 := k10.tup hb
          rcases q with _ | _ | q
          case zero =>
            walk_at "go"
            intro pa Ha na ka ha
            walk_at "go"
            first
              | exact rfl
              | (intro pb Hb nb kb hb; walk_at "go"; exact rfl)
          case succ.zero =>
            walk_at "go"
            intro pa Ha na ka ha
            walk_at "go"
            first
              | exact rfl
              | (intro pb Hb nb kb hb; walk_at "go"; exact rfl)
          case succ.succ => omega
        · rintro σ' H10 ⟨k10, o3, o4, rfl⟩
          exact ⟨k10, _, _, _, rfl⟩
      | putnum c i =>
        have hg : valV szs (.inr "putnum" : L2.Key) = some (.int 3) := hg
        walk_at "go"
        refine ⟨dgS hd9 hg, ?_⟩
        walk_at "go"
        refine ⟨dgS hd9 hg, ?_⟩
        walk_at "go"
        refine ⟨⟨fun q σ' H' => Kp [] H8 H' ∧ ∃ o3 o4, σ' = [some (.ref a), some (.ref p1), some (.ref b), o3, o4], ⟨k9, _, _, rfl⟩, ?_, ?_⟩⟩
        · rintro q σ' H10 hq ⟨k10, o3, o4, rfl⟩
          have hq2 : 1 + q < 3 := hq
          have hb10 := k10.tup hb
          rcases q with _ | _ | q
          case zero =>
            walk_at "go"
            intro pa Ha na ka ha
            walk_at "go"
            first
              | exact rfl
              | (intro pb Hb nb kb hb; walk_at "go"; exact rfl)
          case succ.zero =>
            walk_at "go"
            intro pa Ha na ka ha
            walk_at "go"
            first
              | exact rfl
              | (intro pb Hb nb kb hb; walk_at "go"; exact rfl)
          case succ.succ => omega
        · rintro σ' H10 ⟨k10, o3, o4, rfl⟩
          exact ⟨k10, _, _, _, rfl⟩
      | build c g m2 f2 =>
        have hg : valV szs (.inr "build" : L2.Key) = some (.int 5) := hg
        walk_at "go"
        refine ⟨dgS hd9 hg, ?_⟩
        walk_at "go"
        refine ⟨dgS hd9 hg, ?_⟩
        walk_at "go"
        refine ⟨⟨fun q σ' H' => Kp [] H8 H' ∧ ∃ o3 o4, σ' = [some (.ref a), some (.ref p1), some (.ref b), o3, o4], ⟨k9, _, _, rfl⟩, ?_, ?_⟩⟩
        · rintro q σ' H10 hq ⟨k10, o3, o4, rfl⟩
          have hq2 : 1 + q < 5 := hq
          have hb10 := k10.tup hb
          rcases q with _ | _ | _ | _ | q
          case zero =>
            walk_at "go"
            intro pa Ha na ka ha
            walk_at "go"
            first
              | exact rfl
              | (intro pb Hb nb kb hb; walk_at "go"; exact rfl)
          case succ.zero =>
            walk_at "go"
            intro pa Ha na ka ha
            walk_at "go"
            first
              | exact rfl
              | (intro pb Hb nb kb hb; walk_at "go"; exact rfl)
          case succ.succ.zero =>
            walk_at "go"
            intro pa Ha na ka ha
            walk_at "go"
            first
              | exact rfl
              | (intro pb Hb nb kb hb; walk_at "go"; exact rfl)
          case succ.succ.succ.zero =>
            walk_at "go"
            intro pa Ha na ka ha
            walk_at "go"
            first
              | exact rfl
              | (intro pb Hb nb kb hb; walk_at "go"; exact rfl)
          case succ.succ.succ.succ => omega
        · rintro σ' H10 ⟨k10, o3, o4, rfl⟩
          exact ⟨k10, _, _, _, rfl⟩
      | call g m2 =>
        have hg : valV szs (.inr "call" : L2.Key) = some (.int 3) := hg
        walk_at "go"
        refine ⟨dgS hd9 hg, ?_⟩
        walk_at "go"
        refine ⟨dgS hd9 hg, ?_⟩
        walk_at "go"
        refine ⟨⟨fun q σ' H' => Kp [] H8 H' ∧ ∃ o3 o4, σ' = [some (.ref a), some (.ref p1), some (.ref b), o3, o4], ⟨k9, _, _, rfl⟩, ?_, ?_⟩⟩
        · rintro q σ' H10 hq ⟨k10, o3, o4, rfl⟩
          have hq2 : 1 + q < 3 := hq
          have hb10 := k10.tup hb
          rcases q with _ | _ | q
          case zero =>
            walk_at "go"
            intro pa Ha na ka ha
            walk_at "go"
            first
              | exact rfl
              | (intro pb Hb nb kb hb; walk_at "go"; exact rfl)
          case succ.zero =>
            walk_at "go"
            intro pa Ha na ka ha
            walk_at "go"
            first
              | exact rfl
              | (intro pb Hb nb kb hb; walk_at "go"; exact rfl)
          case succ.succ => omega
        · rintro σ' H10 ⟨k10, o3, o4, rfl⟩
          exact ⟨k10, _, _, _, rfl⟩
      | jump g m2 =>
        have hg : valV szs (.inr "jump" : L2.Key) = some (.int 3) := hg
        walk_at "go"
        refine ⟨dgS hd9 hg, ?_⟩
        walk_at "go"
        refine ⟨dgS hd9 hg, ?_⟩
        walk_at "go"
        refine ⟨⟨fun q σ' H' => Kp [] H8 H' ∧ ∃ o3 o4, σ' = [some (.ref a), some (.ref p1), some (.ref b), o3, o4], ⟨k9, _, _, rfl⟩, ?_, ?_⟩⟩
        · rintro q σ' H10 hq ⟨k10, o3, o4, rfl⟩
          have hq2 : 1 + q < 3 := hq
          have hb10 := k10.tup hb
          rcases q with _ | _ | q
          case zero =>
            walk_at "go"
            intro pa Ha na ka ha
            walk_at "go"
            first
              | exact rfl
              | (intro pb Hb nb kb hb; walk_at "go"; exact rfl)
          case succ.zero =>
            walk_at "go"
            intro pa Ha na ka ha
            walk_at "go"
            first
              | exact rfl
              | (intro pb Hb nb kb hb; walk_at "go"; exact rfl)
          case succ.succ => omega
        · rintro σ' H10 ⟨k10, o3, o4, rfl⟩
          exact ⟨k10, _, _, _, rfl⟩
      | nt g m2 =>
        have hg : valV szs (.inr "not" : L2.Key) = some (.int 3) := hg
        walk_at "go"
        refine ⟨dgS hd9 hg, ?_⟩
        walk_at "go"
        refine ⟨dgS hd9 hg, ?_⟩
        walk_at "go"
        refine ⟨⟨fun q σ' H' => Kp [] H8 H' ∧ ∃ o3 o4, σ' = [some (.ref a), some (.ref p1), some (.ref b), o3, o4], ⟨k9, _, _, rfl⟩, ?_, ?_⟩⟩
        · rintro q σ' H10 hq ⟨k10, o3, o4, rfl⟩
          have hq2 : 1 + q < 3 := hq
          have hb10 := k10.tup hb
          rcases q with _ | _ | q
          case zero =>
            walk_at "go"
            intro pa Ha na ka ha
            walk_at "go"
            first
              | exact rfl
              | (intro pb Hb nb kb hb; walk_at "go"; exact rfl)
          case succ.zero =>
            walk_at "go"
            intro pa Ha na ka ha
            walk_at "go"
            first
              | exact rfl
              | (intro pb Hb nb kb hb; walk_at "go"; exact rfl)
          case succ.succ => omega
        · rintro σ' H10 ⟨k10, o3, o4, rfl⟩
          exact ⟨k10, _, _, _, rfl⟩
      | back =>
        have hg : valV szs (.inr "back" : L2.Key) = some (.int 1) := hg
        walk_at "go"
        refine ⟨dgS hd9 hg, ?_⟩
        walk_at "go"
        refine ⟨dgS hd9 hg, ?_⟩
        walk_at "go"
        refine ⟨⟨fun q σ' H' => Kp [] H8 H' ∧ ∃ o3 o4, σ' = [some (.ref a), some (.ref p1), some (.ref b), o3, o4], ⟨k9, _, _, rfl⟩, ?_, ?_⟩⟩
        · rintro q σ' H10 hq ⟨k10, o3, o4, rfl⟩
          have hq2 : 1 + q < 1 := hq
          omega
        · rintro σ' H10 ⟨k10, o3, o4, rfl⟩
          exact ⟨k10, _, _, _, rfl⟩
      | deed q9 =>
        cases q9 with
        | keep =>
          have hg : valV szs (.inr "keep" : L2.Key) = some (.int 1) := hg
          walk_at "go"
          refine ⟨dgS hd9 hg, ?_⟩
          walk_at "go"
          refine ⟨dgS hd9 hg, ?_⟩
          walk_at "go"
          refine ⟨⟨fun q σ' H' => Kp [] H8 H' ∧ ∃ o3 o4, σ' = [some (.ref a), some (.ref p1), some (.ref b), o3, o4], ⟨k9, _, _, rfl⟩, ?_, ?_⟩⟩
          · rintro q σ' H10 hq ⟨k10, o3, o4, rfl⟩
            have hq2 : 1 + q < 1 := hq
            omega
          · rintro σ' H10 ⟨k10, o3, o4, rfl⟩
            exact ⟨k10, _, _, _, rfl⟩
        | eq =>
          have hg : valV szs (.inr "equal" : L2.Key) = some (.int 1) := hg
          walk_at "go"
          refine ⟨dgS hd9 hg, ?_⟩
          walk_at "go"
          refine ⟨dgS hd9 hg, ?_⟩
          walk_at "go"
          refine ⟨⟨fun q σ' H' => Kp [] H8 H' ∧ ∃ o3 o4, σ' = [some (.ref a), some (.ref p1), some (.ref b), o3, o4], ⟨k9, _, _, rfl⟩, ?_, ?_⟩⟩
          · rintro q σ' H10 hq ⟨k10, o3, o4, rfl⟩
            have hq2 : 1 + q < 1 := hq
            omega
          · rintro σ' H10 ⟨k10, o3, o4, rfl⟩
            exact ⟨k10, _, _, _, rfl⟩
        | asg =>
          have hg : valV szs (.inr "reckon" : L2.Key) = some (.int 1) := hg
          walk_at "go"
          refine ⟨dgS hd9 hg, ?_⟩
          walk_at "go"
          refine ⟨dgS hd9 hg, ?_⟩
          walk_at "go"
          refine ⟨⟨fun q σ' H' => Kp [] H8 H' ∧ ∃ o3 o4, σ' = [some (.ref a), some (.ref p1), some (.ref b), o3, o4], ⟨k9, _, _, rfl⟩, ?_, ?_⟩⟩
          · rintro q σ' H10 hq ⟨k10, o3, o4, rfl⟩
            have hq2 : 1 + q < 1 := hq
            omega
          · rintro σ' H10 ⟨k10, o3, o4, rfl⟩
            exact ⟨k10, _, _, _, rfl⟩
        | lt =>
          have hg : valV szs (.inr "less" : L2.Key) = some (.int 1) := hg
          walk_at "go"
          refine ⟨dgS hd9 hg, ?_⟩
          walk_at "go"
          refine ⟨dgS hd9 hg, ?_⟩
          walk_at "go"
          refine ⟨⟨fun q σ' H' => Kp [] H8 H' ∧ ∃ o3 o4, σ' = [some (.ref a), some (.ref p1), some (.ref b), o3, o4], ⟨k9, _, _, rfl⟩, ?_, ?_⟩⟩
          · rintro q σ' H10 hq ⟨k10, o3, o4, rfl⟩
            have hq2 : 1 + q < 1 := hq
            omega
          · rintro σ' H10 ⟨k10, o3, o4, rfl⟩
            exact ⟨k10, _, _, _, rfl⟩
        | le =>
          have hg : valV szs (.inr "atmost" : L2.Key) = some (.int 1) := hg
          walk_at "go"
          refine ⟨dgS hd9 hg, ?_⟩
          walk_at "go"
          refine ⟨dgS hd9 hg, ?_⟩
          walk_at "go"
          refine ⟨⟨fun q σ' H' => Kp [] H8 H' ∧ ∃ o3 o4, σ' = [some (.ref a), some (.ref p1), some (.ref b), o3, o4], ⟨k9, _, _, rfl⟩, ?_, ?_⟩⟩
          · rintro q σ' H10 hq ⟨k10, o3, o4, rfl⟩
            have hq2 : 1 + q < 1 := hq
            omega
          · rintro σ' H10 ⟨k10, o3, o4, rfl⟩
            exact ⟨k10, _, _, _, rfl⟩
    · rintro σ H9 ⟨k9, o2, o3, o4, rfl⟩
      exact h H9 (kk.trans k9)
end
end GT
/-! GtY: the law reads: key, news, taken, built, head. -/
namespace GT
open PySem L2 GL PyProof.Rows RT
/-! tactics: a fact of the heap by what was kept; the reading's small steps -/
local macro_rules | `(tactic| walk_at "hp") => `(tactic| first | assumption | (refine Kp.tup (by assumption) ?_; walk_at "hp") | (refine Kp.obj0 (by assumption) ?_; walk_at "hp") | (refine Kp.obj1 (by assumption) ?_ (by first | assumption | (apply Ne.symm; assumption)); walk_at "hp"))
local macro_rules | `(tactic| walk_at "kp") => `(tactic| first | assumption | exact Kp.refl _ _ | (refine Kp.trans ?_ (Kp.wk (by assumption) (by simp)); walk_at "kp"))
local macro_rules | `(tactic| walk_at "nn") => `(tactic| first | assumption | (refine Kp.fr (by assumption) _ ?_; walk_at "nn"))
local macro_rules | `(tactic| walk_at "go") => `(tactic| repeat (first | (refine And.intro ?_ ?_; (first | rfl | walk_at "hp" | decide | (refine Or.inl ?_; walk_at "hp") | (refine Or.inr ?_; walk_at "hp") | (refine SqL.of ?_; walk_at "hp") | exact Nat.le_of_ble_eq_true rfl | exact kvS _ | exact kvI _ | exact cmulL rfl | exact cmulR rfl | exact cpw rfl | exact cdv rfl | exact Ty.int _ | exact Ty.str _ | exact Ty.bl _ | exact Ty.lst (by walk_at "hp") | exact Ty.tup (by walk_at "hp") | walk_at "kp" | omega | (dsimp only; first | decide | omega))) | apply Exists.intro))

/-! ### cells 0 .. -/
def thF : Nat → List V → List (L2.Key × V)
  | _, [] => []
  | i, v :: r => (.inl ((i : Nat) : Int), v) :: thF (i + 1) r
theorem thF_len : ∀ (l : List V) (i : Nat), (thF i l).length = l.length
  | [], _ => rfl
  | x :: r, i => by rw [thF, List.length_cons, List.length_cons, thF_len r]
theorem thF_snoc (v : V) : ∀ (l : List V) (i : Nat), thF i (l ++ [v]) = thF i l ++ [(.inl ((i + l.length : Nat) : Int), v)]
  | [], i => rfl
  | y :: r, i => by
    show (_, _) :: thF (i + 1) (r ++ [v]) = _
    rw [thF_snoc v r (i + 1)]
    have e : i + 1 + r.length = i + (y :: r).length := by simp; omega
    rw [e]; rfl
theorem valV_thF : ∀ (l : List V) (i j : Nat), valV (thF i l) (.inl ((i + j : Nat) : Int) : L2.Key) = l[j]?
  | [], i, j => by simp [thF, valV_nil]
  | y :: r, i, 0 => valV_pos (p := ((.inl ((i : Nat) : Int) : L2.Key), y)) rfl
  | y :: r, i, j + 1 => by
    have ne : ¬ ((.inl ((i : Nat) : Int) : L2.Key) = .inl ((i + (j + 1) : Nat) : Int)) := fun z => by have := Sum.inl.inj z; omega
    have e : i + (j + 1) = i + 1 + j := by omega
    rw [thF, valV_neg (p := ((.inl ((i : Nat) : Int) : L2.Key), y)) ne, e, valV_thF r (i + 1) j, List.getElem?_cons_succ]
theorem thF_get (l : List V) (j : Nat) : valV (thF 0 l) (.inl ((j : Nat) : Int) : L2.Key) = l[j]? := by
  have := valV_thF l 0 j
  rw [Nat.zero_add] at this; exact this
theorem thF_set (v : V) : ∀ (l : List V) (i j : Nat), (thF i l).map (fun kv => if kv.1 = (.inl ((i + j : Nat) : Int) : L2.Key) then (kv.1, v) else kv) = thF i (l.set j v)
  | [], _, _ => rfl
  | y :: r, i, 0 => by
    show (if (.inl ((i : Nat) : Int) : L2.Key) = .inl ((i : Nat) : Int) then ((.inl ((i : Nat) : Int) : L2.Key), v) else _) :: (thF (i + 1) r).map _ = (.inl ((i : Nat) : Int), v) :: thF (i + 1) r
    rw [if_pos rfl]
    congr 1
    have : ∀ (r : List V) (k : Nat), i < k → (thF k r).map (fun kv => if kv.1 = (.inl ((i + 0 : Nat) : Int) : L2.Key) then (kv.1, v) else kv) = thF k r := by
      intro r
      induction r with
      | nil => intro k _; rfl
      | cons w r ih =>
        intro k hk
        show (if (.inl ((k : Nat) : Int) : L2.Key) = .inl ((i + 0 : Nat) : Int) then ((.inl ((k : Nat) : Int) : L2.Key), v) else (.inl ((k : Nat) : Int), w)) :: (thF (k + 1) r).map _ = _
        rw [if_neg (fun q => by have := Sum.inl.inj q; omega), ih (k + 1) (by omega)]
        rfl
    exact this r (i + 1) (by omega)
  | y :: r, i, j + 1 => by
    show (if (.inl ((i : Nat) : Int) : L2.Key) = .inl ((i + (j + 1) : Nat) : Int) then ((.inl ((i : Nat) : Int) : L2.Key), v) else (.inl ((i : Nat) : Int), y)) :: (thF (i + 1) r).map _ = (.inl ((i : Nat) : Int), y) :: thF (i + 1) (r.set j v)
    rw [if_neg (fun q => by have := Sum.inl.inj q; omega)]
    have e : i + (j + 1) = i + 1 + j := by omega
    rw [e, thF_set v r (i + 1) j]
theorem thF_put {l : List V} {j : Nat} (h : j < l.length) (v : V) : putK (thF 0 l) (.inl ((j : Nat) : Int) : L2.Key) v = thF 0 (l.set j v) := by
  unfold putK
  rw [valV_any, thF_get, List.getElem?_eq_getElem h]
  have e1 : (some l[j]).isSome = true := rfl
  rw [if_pos e1]
  have := thF_set v l 0 j
  rw [Nat.zero_add] at this
  exact this
theorem thF_add (l : List V) (v : V) : putK (thF 0 l) (.inl ((l.length : Nat) : Int) : L2.Key) v = thF 0 (l ++ [v]) := by
  rw [putK_new _ (by rw [thF_get, List.getElem?_eq_none (Nat.le_refl _)]), thF_snoc, Nat.zero_add]
def OptAt (H : Hp) (v : V) : Option Row → Prop
  | none => v = .non
  | some r => RowAt H v r
def OptsAt (H : Hp) : List V → HS → Prop
  | [], [] => True
  | v :: vs, o :: os => OptAt H v o ∧ OptsAt H vs os
  | _, _ => False
theorem OptAt.kp {S : List Addr} {H H' : Hp} {v : V} (k : Kp S H H') : ∀ {o : Option Row}, OptAt H v o → OptAt H' v o
  | none, h => h
  | some _, h => RowAt.kp h k
theorem OptsAt.kp {S : List Addr} {H H' : Hp} (k : Kp S H H') : ∀ {vs : List V} {os : HS}, OptsAt H vs os → OptsAt H' vs os
  | [], [], _ => trivial
  | v :: vs, o :: os, ⟨h1, h2⟩ => ⟨h1.kp k, OptsAt.kp k h2⟩
  | [], _ :: _, h => False.elim h
  | _ :: _, [], h => False.elim h
theorem OptsAt.len {H : Hp} : ∀ {vs : List V} {os : HS}, OptsAt H vs os → vs.length = os.length
  | [], [], _ => rfl
  | v :: vs, o :: os, ⟨_, h⟩ => by rw [List.length_cons, List.length_cons, OptsAt.len h]
  | [], _ :: _, h => False.elim h
  | _ :: _, [], h => False.elim h
theorem OptsAt.get {H : Hp} : ∀ {vs : List V} {os : HS} {i : Nat} {o : Option Row}, OptsAt H vs os → os[i]? = some o → ∃ v, vs[i]? = some v ∧ OptAt H v o
  | v :: vs, r :: rs, 0, _, ⟨h, _⟩, e => by cases e; exact ⟨v, rfl, h⟩
  | v :: vs, r :: rs, i + 1, u, ⟨_, h⟩, e => by
    obtain ⟨t', h1, h2⟩ := OptsAt.get (i := i) (o := u) h (by simpa using e)
    exact ⟨t', by simpa using h1, h2⟩
  | [], [], _, _, _, e => by simp at e
  | [], _ :: _, _, _, h, _ => False.elim h
  | _ :: _, [], _, _, h, _ => False.elim h
theorem OptsAt.set {H : Hp} {v : V} {o : Option Row} (hv : OptAt H v o) : ∀ {vs : List V} {os : HS} (i : Nat), OptsAt H vs os → OptsAt H (vs.set i v) (os.set i o)
  | [], [], _, _ => trivial
  | _ :: vs, _ :: os, 0, ⟨_, h⟩ => ⟨hv, h⟩
  | _ :: vs, _ :: os, i + 1, ⟨h1, h⟩ => ⟨h1, OptsAt.set hv i h⟩
  | [], _ :: _, _, h => False.elim h
  | _ :: _, [], _, h => False.elim h
theorem OptsAt.snoc {H : Hp} {v : V} {o : Option Row} (hv : OptAt H v o) : ∀ {vs : List V} {os : HS}, OptsAt H vs os → OptsAt H (vs ++ [v]) (os ++ [o])
  | [], [], _ => ⟨hv, trivial⟩
  | _ :: vs, _ :: os, ⟨h1, h⟩ => ⟨h1, OptsAt.snoc hv h⟩
  | [], _ :: _, h => False.elim h
  | _ :: _, [], h => False.elim h
theorem OptsAt.nones {H : Hp} : ∀ m : Nat, OptsAt H (List.replicate m .non) (List.replicate m none)
  | 0 => trivial
  | m + 1 => ⟨rfl, OptsAt.nones m⟩
theorem rep_snoc {α : Type} (a : α) (m : Nat) : List.replicate m a ++ [a] = List.replicate (m + 1) a := by
  rw [List.replicate_succ']
section
variable {P : Program} {w : World} {K : PySem.W.Frag} {mg : Str → Option Value} {base : Heap} {C d : Addr} {es : Array DictEntry} {n : Nat} {k : Nat}
abbrev s_key : Stmt := (topS 37)
abbrev N_key : List Str := ["_law_head_here", "_law_kid"]
theorem sc_key : FnScope N_key ["_law_head_here"] (defScope s_key) := ⟨rfl, rfl, rfl, by decide +kernel, rfl, by decide +kernel, by decide +kernel⟩

theorem ok_key (tx : Txt K w mg C d es n) (D : DefAt K mg "_law_key" s_key ["_law_head_here"]) : Def P w K mg base "_law_key" (k + 1) ["_law_head_here"] spFirstKey := by
  refine D.ok sc_key (fun vs H Q E h => ?_) (fun f cdv A outer s H vs Q E hr h => ?_)
  · obtain ⟨v, s, ks, rfl, _⟩ := h; rfl
  · obtain ⟨v, s, ks, rfl, ht, h⟩ := h
    have hu := hu_of hr
    refine ⟨_, (pss_cons (ps_if (PW.pt (pw_or (pt_cmpR op_eq (pe_len (by rfl) tx.len_ (pe_tc (n := 2) (pv 0))) pe_int (nomark _)) (pw_or1 (pt_cmpR op_eq (pe_tc (n := 0) (pe_tc (n := 0) (pe_tc (n := 2) (pv 0)))) pe_str (nomark _))))) (pss_one (ps_ret pe_non)) pss_nil)
      (pss_cons (ps_set (i := 1) sc_key.nd rfl (by first | exact .inl rfl | exact .inr rfl) (pe_tc (n := 0) (pe_tc (n := 2) (pv 0))))
      (pss_cons (ps_if (pt_cmpR op_eq (pe_tc (n := 0) (pv 1)) pe_str (nomark _)) (pss_one (ps_ret (pv 1))) pss_nil)
      (pss_one (ps_ret (pe_tupN (pa_cons pe_str (pa_cons (pe_tc (n := 1) (pv 1)) (pa_cons (pe_len (by rfl) tx.len_ (pe_tc (n := 2) (pv 1))) pa_nil))))))))), ?_⟩
    obtain ⟨a, b, vk, rfl, ha, hb, hk⟩ := ht
    cases ks with
    | nil =>
      have hkl := hk.len
      have e : vk = [] := List.eq_nil_of_length_eq_zero hkl
      subst e
      walk_at "go"
      exact h _ _ rfl (Kp.refl _ _)
    | cons t r =>
      match vk, hk with
      | v1 :: vr, ⟨h1, h2⟩ =>
      cases t with
      | any x =>
        obtain ⟨a1, rfl, ha1⟩ := h1
        walk_at "go"
        exact h _ _ rfl (Kp.refl _ _)
      | num x =>
        obtain ⟨a1, rfl, ha1⟩ := h1
        walk_at "go"
        exact h _ _ ⟨a1, rfl, ha1⟩ (Kp.refl _ _)
      | app x ks2 =>
        obtain ⟨a1, b1, vk1, rfl, ha1, hb1, hk1⟩ := h1
        have hkl := hk1.len
        walk_at "go"
        intro p H1 n1 k1 h1
        rw [hkl] at h1
        exact h _ _ ⟨p, rfl, h1⟩ k1
abbrev s_news : Stmt := (topS 36)
abbrev N_news : List Str := ["_law_slots_here", "_law_many", "_law_slot"]
theorem sc_news : FnScope N_news ["_law_slots_here", "_law_many"] (defScope s_news) := ⟨rfl, rfl, rfl, by decide +kernel, rfl, by decide +kernel, by decide +kernel⟩

def spNews : Sp := fun vs H Q _ => ∃ (i m : Nat), vs = [.int ((i + m : Nat) : Int), .int (m : Nat)] ∧ i + m ≤ 1000 ∧ ∀ p xs H', H' p = some (.lst xs) → RowsAt H' xs ((List.range' i m).map Row.new) → Kp [] H H' → Q (.ref p) H'
theorem ok_news (tx : Txt K w mg C d es n) (D : DefAt K mg "_law_news" s_news ["_law_slots_here", "_law_many"]) : Def P w K mg base "_law_news" (k + 1) ["_law_slots_here", "_law_many"] spNews := by
  refine D.ok sc_news (fun vs H Q E h => ?_) (fun f cdv A outer s H vs Q E hr h => ?_)
  · obtain ⟨i, m, rfl, _⟩ := h; rfl
  · obtain ⟨i, m, rfl, hb, h⟩ := h
    have hu := hu_of hr
    refine ⟨_, (pss_one (ps_ret (lcR2 (x1 := "_law_slot") (i := 2) rfl sc_news.nd (by rfl) tx.range_ (pe_op op_sub (pv 0) (pv 1)) (pv 0) (blkOk_by (own := [("_law_slot", 2)]) (N := N_news) (sc := defScope s_news) (by decide +kernel)) (fun _ _ _ _ _ => pg_name (i := 2) sc_news.nd rfl (Or.inl rfl)) (fun _ _ _ _ _ => (pe_tupN (pa_cons pe_str (pa_cons (pv 2) pa_nil))))).pe)), ?_⟩
    refine ⟨_, rfl, _, rfl, _, _, rfl, rfl, _, rfl, i, m, ?_, rfl, by omega, [], _, LcOk.mk' (fun q ys H => q ≤ m ∧ RowsAt H ys ((List.range' i q).map Row.new)) (by omega) (by simp) ⟨Nat.zero_le _, trivial⟩ (fun m ys H H' D hD kk r k => ⟨r.1, r.2.kp k⟩) ?_ ?_ ?_⟩
    · show V.int (((i + m : Nat) : Int) - (m : Int)) = _
      exact vi (by omega)
    · rintro q ys H ⟨hq, r⟩
      rw [r.len]; simp
    · rintro q ys H2 hq kk ⟨hq2, r⟩
      walk_at "go"
      intro p H3 n3 k3 h3
      refine ⟨k3, kk.trans k3, by omega, ?_⟩
      rw [List.range'_1_concat, List.map_append]
      exact (r.kp k3).append ⟨⟨p, rfl, h3⟩, trivial⟩
    · rintro ys H2 p hp kk ⟨_, r⟩ e
      exact h p ys H2 e r kk
abbrev s_taken : Stmt := (topS 33)
abbrev N_taken : List Str := ["_law_cells", "_law_first", "_law_many", "_law_cell"]
theorem sc_taken : FnScope N_taken ["_law_cells", "_law_first", "_law_many"] (defScope s_taken) := ⟨rfl, rfl, rfl, by decide +kernel, rfl, by decide +kernel, by decide +kernel⟩

def spTaken : Sp := fun vs H Q _ => ∃ (a : Addr) (i m : Nat) (kvs : List (L2.Key × V)) (us : List V), vs = [.ref a, .int i, .int m] ∧ H a = some (.dK kvs) ∧ us.length = m ∧ m ≤ 5 ∧ i ≤ 1000 ∧ (∀ j u, us[j]? = some u → valV kvs (.inl ((i + j : Nat) : Int) : L2.Key) = some u) ∧
  ∀ p H', H' p = some (.tup us) → Kp [] H H' → Q (.ref p) H'
theorem ok_taken (tx : Txt K w mg C d es n) (D : DefAt K mg "_law_taken" s_taken ["_law_cells", "_law_first", "_law_many"]) : Def P w K mg base "_law_taken" (k + 1) ["_law_cells", "_law_first", "_law_many"] spTaken := by
  refine D.ok sc_taken (fun vs H Q E h => ?_) (fun f cdv A outer s H vs Q E hr h => ?_)
  · obtain ⟨a, i, m, kvs, us, rfl, _⟩ := h; rfl
  · obtain ⟨a, i, m, kvs, us, rfl, ha, hl, hm, hi, hv, h⟩ := h
    have hu := hu_of hr
    refine ⟨_, (pss_one (ps_ret (pe_tuple (by rfl) tx.tuple_ (lcR2 (x1 := "_law_cell") (i := 3) rfl sc_taken.nd (by rfl) tx.range_ (pv 1) (pe_op op_add (pv 1) (pe_callB (call_min2 rfl) (by rfl) tx.min_ boot_min (pa_cons (pv 2) (pa_cons pe_int pa_nil)))) (blkOk_by (own := [("_law_cell", 3)]) (N := N_taken) (sc := defScope s_taken) (by decide +kernel)) (fun _ _ _ _ _ => pg_name (i := 3) sc_taken.nd rfl (Or.inl rfl)) (fun _ _ _ _ _ => (pe_dget1 hu (pv 0) (pv 3) ⟨rfl, rfl, rfl, rfl⟩))).pe))), ?_⟩
    refine ⟨_, rfl, _, rfl, _, rfl, _, _, rfl, _, _, rfl, rfl, i, m, rfl, ?_, by omega, [], _, LcOk.mk' (fun q ys H => ys = us.take q ∧ q ≤ m) (by omega) (by simp) ⟨rfl, Nat.zero_le _⟩ (fun m ys H H' D hD kk r k => r) ?_ ?_ ?_⟩
    · have e : (if (5 : Int) < (m : Int) then (5 : Int) else (m : Int)) = (m : Int) := by rw [if_neg (by omega)]
      show V.int ((i : Int) + (if (5 : Int) < (m : Int) then (5 : Int) else (m : Int))) = _
      rw [e]; rfl
    · rintro q ys H ⟨rfl, hq⟩
      rw [List.length_take]; omega
    · rintro q ys H2 hq kk ⟨rfl, hq2⟩
      have hlt : q < us.length := by omega
      have hg := hv q us[q] (List.getElem?_eq_getElem hlt)
      have ha2 := kk.obj0 ha
      refine ⟨_, rfl, a, rfl, .inl ⟨_, .inl ha2⟩, _, rfl, _, dgI ha2 hg, Kp.refl _ _, kk, ?_, by omega⟩
      rw [List.take_add_one, List.getElem?_eq_getElem hlt]; rfl
    · rintro ys H2 p hp kk ⟨rfl, _⟩ e
      rw [← hl, List.take_length] at e
      walk_at "go"
      intro p3 H3 n3 k3 h3
      exact h p3 H3 h3 (kk.trans k3)
abbrev s_built : Stmt := (topS 32)
abbrev N_built : List Str := ["_law_there", "_law_cell", "_law_row", "_law_k"]
theorem sc_built : FnScope N_built ["_law_there", "_law_cell"] (defScope s_built) := ⟨rfl, rfl, rfl, by decide +kernel, rfl, by decide +kernel, by decide +kernel⟩

def spBuilt (j : Nat) : Sp := fun vs H Q _ => ∃ (a : Addr) (c : Nat) (xs : List V) (cs : HS) (f : Str → Nat) (t : GT.T), vs = [.ref a, .int c] ∧ H a = some (.dK (thF 0 xs)) ∧ OptsAt H xs cs ∧ Bt f cs c t ∧ t.ok ∧ t.size ≤ j ∧
  ∀ u H', TA (fun x => .int ((f x : Nat) : Int)) H' u t → Kp [] H H' → Q u H'
theorem step_built (tx : Txt K w mg C d es n) {j : Nat} (d_built : Def P w K mg base "_law_built" k ["_law_there", "_law_cell"] (spBuilt j)) (D : DefAt K mg "_law_built" s_built ["_law_there", "_law_cell"]) : Def P w K mg base "_law_built" (k + 1) ["_law_there", "_law_cell"] (spBuilt (j + 1)) := by
  refine D.ok sc_built (fun vs H Q E h => ?_) (fun f cdv A outer s H vs Q E hr h => ?_)
  · obtain ⟨a, c, xs, cs, g, t, rfl, _⟩ := h; rfl
  · obtain ⟨a, c, xs, cs, g, t, rfl, ha, ho, hb, hok, hj, h⟩ := h
    have hu := hu_of hr
    refine ⟨_, (pss_cons (ps_set (i := 2) sc_built.nd rfl (by first | exact .inl rfl | exact .inr rfl) (pe_dget hu (pv 0) (pv 1) (fun _ _ => rfl)))
      (pss_cons (ps_if (pt_cmpR op_eq (pe_tc (n := 0) (pv 2)) pe_str (nomark _)) (pss_one (ps_ret (pe_tupN (pa_cons pe_str (pa_cons (pe_tc (n := 2) (pv 2)) pa_nil))))) pss_nil)
      (pss_cons (ps_if (pt_cmpR op_ne (pe_tc (n := 0) (pv 2)) pe_str (nomark _)) (pss_one (ps_ret (pe_tupN (pa_cons pe_str (pa_cons (pe_tc (n := 2) (pv 2)) pa_nil))))) pss_nil)
      (pss_one (ps_ret (pe_tupN (pa_cons pe_str (pa_cons (pe_tc (n := 2) (pv 2)) (pa_cons (pe_tuple (by rfl) tx.tuple_ (lcR (x1 := "_law_k") (i := 3) rfl sc_built.nd (by rfl) tx.range_ (pe_callB (call_min2 rfl) (by rfl) tx.min_ boot_min (pa_cons (pe_tc (n := 3) (pv 2)) (pa_cons pe_int pa_nil))) (blkOk_by (own := [("_law_k", 3)]) (N := N_built) (sc := defScope s_built) (by decide +kernel)) (fun _ _ _ _ _ => pg_name (i := 3) sc_built.nd rfl (Or.inl rfl)) (fun _ _ _ _ _ => (pe_cl d_built (hr.mono (by omega)) (pa_cons (pv 0) (pa_cons (pe_op op_add (pe_tc (n := 4) (pv 2)) (pv 3)) pa_nil))))).pe) pa_nil))))))))), ?_⟩
    cases t with
    | any x =>
      obtain ⟨sm, c', e⟩ := hb
      obtain ⟨v, h1, b, rfl, h2⟩ := ho.get e
      refine ⟨_, rfl, _, rfl, a, .ref b, rfl, dgI ha (by rw [thF_get]; exact h1), ?_⟩
      cases sm with
      | false =>
        have h2 : H b = some (.tup [.str "slot", .int c', .int ((g x : Nat) : Int)]) := h2
        walk_at "go"
        intro p H1 n1 k1 h1
        exact h _ _ ⟨p, rfl, h1⟩ k1
      | true =>
        have h2 : H b = some (.tup [.str "same", .int c', .int ((g x : Nat) : Int)]) := h2
        walk_at "go"
        intro p H1 n1 k1 h1
        exact h _ _ ⟨p, rfl, h1⟩ k1
    | num i =>
      obtain ⟨c', e⟩ := hb
      obtain ⟨v, h1, b, rfl, h2⟩ := ho.get e
      refine ⟨_, rfl, _, rfl, a, .ref b, rfl, dgI ha (by rw [thF_get]; exact h1), ?_⟩
      have h2 : H b = some (.tup [.str "num", .int c', .int i]) := h2
      walk_at "go"
      intro p H1 n1 k1 h1
      exact h _ _ ⟨p, rfl, h1⟩ k1
    | app x ks =>
      obtain ⟨c', fr, e, hbs⟩ := hb
      obtain ⟨v, h1, b, rfl, h2⟩ := ho.get e
      refine ⟨_, rfl, _, rfl, a, .ref b, rfl, dgI ha (by rw [thF_get]; exact h1), ?_⟩
      have h2 : H b = some (.tup [.str "app", .int c', .str x, .int (ks.length : Nat), .int fr]) := h2
      have h4 := hok.2.1
      simp only [GT.T.size] at hj
      have e4 : (if (4 : Int) < ((ks.length : Nat) : Int) then (4 : Int) else ((ks.length : Nat) : Int)) = ((ks.length : Nat) : Int) := by rw [if_neg (by omega)]
      have hbt : ∀ (ks : List GT.T) (n q : Nat) (t : GT.T), Bts g cs n ks → ks[q]? = some t → Bt g cs (n + q) t := by
        intro ks
        induction ks with
        | nil => intro n q t _ e; simp at e
        | cons a r ih =>
          intro n q t hb e
          cases q with
          | zero => cases e; exact hb.1
          | succ q =>
            have := ih (n + 1) q t hb.2 (by simpa using e)
            have e2 : n + (q + 1) = n + 1 + q := by omega
            rw [e2]; exact this
      walk_at "go"
      rw [e4]
      refine ⟨rfl, [], _, LcOk.mk' (fun m ys H => TAs (fun x => .int ((g x : Nat) : Int)) H ys (ks.take m) ∧ m ≤ ks.length) (by omega) (by simp) ⟨trivial, Nat.zero_le _⟩ (fun m ys H H' D hD kk r k => ⟨r.1.kp k, r.2⟩) ?_ ?_ ?_⟩
      · rintro m ys H ⟨r, hm⟩
        rw [r.len, List.length_take]; omega
      · rintro m ys H2 hm kk ⟨r, hm2⟩
        have hlt : m < ks.length := hm
        have h1 : ks[m]? = some ks[m] := List.getElem?_eq_getElem hlt
        have hsz := sizes_mem (List.mem_of_getElem? h1)
        refine ⟨_, rfl, _, rfl, b, _, _, rfl, kk.tup h2, rfl, _, rfl, _, _, rfl, rfl, a, fr + m, xs, cs, g, ks[m], rfl, kk.obj0 ha, ho.kp kk, hbt ks fr m _ hbs h1, oks_mem hok.2.2 (List.mem_of_getElem? h1), by omega, fun u H' hu2 k => ⟨k, kk.trans k, ?_, by omega⟩⟩
        rw [take_succ h1]
        exact (r.kp k).snoc hu2
      · rintro ys H2 p hp kk ⟨r, _⟩ e
        rw [List.take_length] at r
        walk_at "go"
        intro p3 H3 n3 k3 h3
        have h23 : H3 b = some (.tup [.str "app", .int c', .str x, .int (ks.length : Nat), .int fr]) := k3.tup (kk.tup h2)
        walk_at "go"
        intro p4 H4 n4 k4 h4
        exact h _ _ ⟨p4, p3, ys, rfl, h4, k4.tup h3, (r.kp k3).kp k4⟩ ((kk.trans k3).trans k4)
end
end GT
/-! GtZ: the law reads: head. -/
namespace GT
open PySem L2 GL PyProof.Rows RT
/-! tactics: a fact of the heap by what was kept; the reading's small steps -/
local macro_rules | `(tactic| walk_at "hp") => `(tactic| first | assumption | (refine Kp.tup (by assumption) ?_; walk_at "hp") | (refine Kp.obj0 (by assumption) ?_; walk_at "hp") | (refine Kp.obj1 (by assumption) ?_ (by first | assumption | (apply Ne.symm; assumption)); walk_at "hp"))
local macro_rules | `(tactic| walk_at "kp") => `(tactic| first | assumption | exact Kp.refl _ _ | (refine Kp.trans ?_ (Kp.wk (by assumption) (by simp)); walk_at "kp"))
local macro_rules | `(tactic| walk_at "nn") => `(tactic| first | assumption | (refine Kp.fr (by assumption) _ ?_; walk_at "nn"))
local macro_rules | `(tactic| walk_at "go") => `(tactic| repeat (first | (refine And.intro ?_ ?_; (first | rfl | walk_at "hp" | decide | (refine Or.inl ?_; walk_at "hp") | (refine Or.inr ?_; walk_at "hp") | (refine SqL.of ?_; walk_at "hp") | exact Nat.le_of_ble_eq_true rfl | exact kvS _ | exact kvI _ | exact cmulL rfl | exact cmulR rfl | exact cpw rfl | exact cdv rfl | exact Ty.int _ | exact Ty.str _ | exact Ty.bl _ | exact Ty.lst (by walk_at "hp") | exact Ty.tup (by walk_at "hp") | walk_at "kp" | omega | (dsimp only; first | decide | omega))) | apply Exists.intro))

theorem head_word {r : Row} (h : r.isHead = true) : decide (r.word ∈ (["slot", "same", "num", "app"] : List Str)) = true := by
  cases r with
  | slot w c s =>
    cases w
    · exact (by decide +kernel : decide (("slot" : Str) ∈ (["slot", "same", "num", "app"] : List Str)) = true)
    · exact (by decide +kernel : decide (("same" : Str) ∈ (["slot", "same", "num", "app"] : List Str)) = true)
  | num c i => exact (by decide +kernel : decide (("num" : Str) ∈ (["slot", "same", "num", "app"] : List Str)) = true)
  | app c g m f => exact (by decide +kernel : decide (("app" : Str) ∈ (["slot", "same", "num", "app"] : List Str)) = true)
  | _ => cases h
theorem nohead_word {r : Row} (h : r.isHead = false) : decide (r.word ∈ (["slot", "same", "num", "app"] : List Str)) = false := by
  cases r with
  | slot w c s => cases h
  | num c i => cases h
  | app c g m f => cases h
  | deed q => cases q <;> decide +kernel
  | frame => exact (by decide +kernel : decide (("frame" : Str) ∈ (["slot", "same", "num", "app"] : List Str)) = false)
  | new s => exact (by decide +kernel : decide (("new" : Str) ∈ (["slot", "same", "num", "app"] : List Str)) = false)
  | put c s => exact (by decide +kernel : decide (("put" : Str) ∈ (["slot", "same", "num", "app"] : List Str)) = false)
  | putnum c s => exact (by decide +kernel : decide (("putnum" : Str) ∈ (["slot", "same", "num", "app"] : List Str)) = false)
  | build c g m f => exact (by decide +kernel : decide (("build" : Str) ∈ (["slot", "same", "num", "app"] : List Str)) = false)
  | call g m => exact (by decide +kernel : decide (("call" : Str) ∈ (["slot", "same", "num", "app"] : List Str)) = false)
  | jump g m => exact (by decide +kernel : decide (("jump" : Str) ∈ (["slot", "same", "num", "app"] : List Str)) = false)
  | nt g m => exact (by decide +kernel : decide (("not" : Str) ∈ (["slot", "same", "num", "app"] : List Str)) = false)
  | back => exact (by decide +kernel : decide (("back" : Str) ∈ (["slot", "same", "num", "app"] : List Str)) = false)
theorem key_thF : ∀ (l : List V) (i j : Nat) (kk : L2.Key) (v : V), (thF i l)[j]? = some (kk, v) → kk = .inl ((i + j : Nat) : Int) ∧ l[j]? = some v
  | [], _, _, _, _, e => by simp [thF] at e
  | y :: r, i, 0, kk, v, e => by
    simp [thF] at e
    exact ⟨e.1.symm, by simp [e.2]⟩
  | y :: r, i, j + 1, kk, v, e => by
    have := key_thF r (i + 1) j kk v (by simpa [thF] using e)
    refine ⟨?_, by simpa using this.2⟩
    rw [this.1]
    congr 2; omega
section
variable {P : Program} {w : World} {K : PySem.W.Frag} {mg : Str → Option Value} {base : Heap} {C d : Addr} {es : Array DictEntry} {n : Nat} {k : Nat}
abbrev s_head : Stmt := (topS 31)
abbrev N_head : List Str := ["_law_rows", "_law_many", "_law_there", "_law_cell", "_law_at", "_law_row"]
theorem sc_head : FnScope N_head ["_law_rows", "_law_many"] (defScope s_head) := ⟨rfl, rfl, rfl, by decide +kernel, rfl, by decide +kernel, by decide +kernel⟩

def spHd : Sp := fun vs H Q _ => ∃ (a : Addr) (m : Nat) (xs : List V) (rs rH rest : List Row) (f : Str → Nat) (ks : List GT.T), vs = [.ref a, .int m] ∧ H a = some (.lst xs) ∧ RowsAt H xs rs ∧ rs = rH ++ rest ∧ Takes f 0 ks ks.length rH ∧ ks.length = m ∧ oks ks ∧ sizes ks ≤ 100 ∧ rs.length ≤ 1000 ∧ (∀ r, rest[0]? = some r → r.isHead = false) ∧
  ∀ p b us H', H' p = some (.tup [.ref b, .int (rH.length : Nat)]) → H' b = some (.tup us) → TAs (fun x => .int ((f x : Nat) : Int)) H' us ks → Kp [] H H' → Q (.ref p) H'
def Whd (a p1 : Addr) (m : Nat) (H1 : Hp) (rH : List Row) (csF : HS) : Nat → L2.St → Hp → Prop := fun q σ H' => ∃ (i : Nat) (cs : HS) (vs : List V) (o3 o5 : Option V), i ≤ rH.length ∧ q = rH.length - i ∧ H' p1 = some (.dK (thF 0 vs)) ∧ OptsAt H' vs cs ∧ HRun cs (rH.drop i) csF ∧ cs.length ≤ csF.length ∧
  Kp [p1] H1 H' ∧ σ = [some (.ref a), some (.int m), some (.ref p1), o3, some (.int (i : Nat)), o5]
theorem OptsAt.append {H : Hp} : ∀ {vs : List V} {os : HS} {us : List V} {ps : HS}, OptsAt H vs os → OptsAt H us ps → OptsAt H (vs ++ us) (os ++ ps)
  | [], [], _, _, _, h => h
  | _ :: vs, _ :: os, _, _, ⟨h1, h2⟩, h => ⟨h1, OptsAt.append h2 h⟩
  | [], _ :: _, _, _, h, _ => False.elim h
  | _ :: _, [], _, _, h, _ => False.elim h
theorem HStep.len {a b : HS} {r : Row} (h : HStep a r b) : a.length ≤ b.length := by
  cases r with
  | slot w c s => obtain ⟨_, e⟩ := h; rw [e]; simp
  | num c i => obtain ⟨_, e⟩ := h; rw [e]; simp
  | app c g m f => obtain ⟨_, _, _, e⟩ := h; rw [e]; simp
  | _ => exact False.elim h
theorem HRun.len : ∀ {rs : List Row} {a b : HS}, HRun a rs b → a.length ≤ b.length
  | [], a, b, h => by
    have e : b = a := h
    rw [e]; exact Nat.le_refl _
  | r :: rs, a, b, ⟨c, h1, h2⟩ => Nat.le_trans h1.len (HRun.len h2)
theorem ok_hd (tx : Txt K w mg C d es n) (d_built : Def P w K mg base "_law_built" k ["_law_there", "_law_cell"] (spBuilt 100)) (D : DefAt K mg "_law_head" s_head ["_law_rows", "_law_many"]) : Def P w K mg base "_law_head" (k + 1) ["_law_rows", "_law_many"] spHd := by
  refine D.ok sc_head (fun vs H Q E h => ?_) (fun f cdv A outer s H vs Q E hr h => ?_)
  · obtain ⟨a, m, xs, rs, rH, rest, g, ks, rfl, _⟩ := h; rfl
  · obtain ⟨a, m, xs, rs, rH, rest, g, ks, rfl, ha, hrs, ers, htk, hkm, hok, hsz, hlen, hrest, h⟩ := h
    have hu := hu_of hr
    have hsl := sizes_len ks
    have hxl := hrs.len
    have hrl := htk.len
    have hhd := htk.heads
    obtain ⟨csF, hrun, hbts, hran⟩ := takes_run g ks 0 rH (List.replicate m none) hok (by rw [List.length_replicate, ← hkm]; exact htk) (fun j hj => by rw [List.getElem?_replicate, if_pos (by omega)]) (by simp; omega)
    have hcl : csF.length ≤ 200 := by
      rw [hran.len, List.length_replicate]
      have := cellss_eq ks; omega
    have hall : ∀ j, j < csF.length → ∃ r, csF[j]? = some (some r) := fun j hj => by
      by_cases hjm : j < m
      · exact hran.here j (by omega) (by omega)
      · refine hran.new j (by rw [List.length_replicate]; omega) ?_
        rw [hran.len] at hj; exact hj
    refine ⟨_, (pss_cons (ps_set (i := 2) sc_head.nd rfl (by first | exact .inl rfl | exact .inr rfl) pe_dnewKN)
      (pss_cons (ps_forR PassesOwn.never rfl (by rfl) tx.range_ (pv 1) (pg_name (i := 3) sc_head.nd rfl (by first | exact .inl rfl | exact .inr rfl)) (pss_one (ps_putK hu (pv 2) (pv 3) pe_non)))
      (pss_cons (ps_set (i := 4) sc_head.nd rfl (by first | exact .inl rfl | exact .inr rfl) pe_int)
      (pss_cons (ps_whileN PassesOwn.never (PW.pt (pw_and (pt_cmpR op_lt (pv 4) (pe_len (by rfl) tx.len_ (pv 0)) (nomark _)) (pw_and1 (pt_cmpR (op_inS ["slot", "same", "num", "app"]) (pe_tc (n := 0) (pe_il (pv 0) (pv 4))) (pe_tupN (pa_cons pe_str (pa_cons pe_str (pa_cons pe_str (pa_cons pe_str pa_nil))))) (by rfl))))) (pss_cons (ps_set (i := 5) sc_head.nd rfl (by first | exact .inl rfl | exact .inr rfl) (pe_il (pv 0) (pv 4)))
      (pss_cons (ps_if (PW.pt (pw_or (pt_cmp (pc_dnotin hu (pe_tc (n := 1) (pv 5)) (pv 2)) (by rfl)) (pw_or1 (pt_cmpR op_notN (pe_dget hu (pv 2) (pe_tc (n := 1) (pv 5)) (fun _ _ => rfl)) pe_non (nomark _))))) (pss_one (ps_ret pe_non)) pss_nil)
      (pss_cons (ps_putK hu (pv 2) (pe_tc (n := 1) (pv 5)) (pv 5))
      (pss_cons (ps_if (pt_cmpR op_eq (pe_tc (n := 0) (pv 5)) pe_str (nomark _)) (pss_one (ps_forR2 PassesOwn.never rfl (by rfl) tx.range_ (pe_tc (n := 4) (pv 5)) (pe_op op_add (pe_tc (n := 4) (pv 5)) (pe_callB (call_min2 rfl) (by rfl) tx.min_ boot_min (pa_cons (pe_tc (n := 3) (pv 5)) (pa_cons pe_int pa_nil)))) (pg_name (i := 3) sc_head.nd rfl (by first | exact .inl rfl | exact .inr rfl)) (pss_cons (ps_if (pt_cmp (pc_din hu (pv 3) (pv 2)) (by rfl)) (pss_one (ps_ret pe_non)) pss_nil)
      (pss_one (ps_putK hu (pv 2) (pv 3) pe_non))))) pss_nil)
      (pss_one (ps_set (i := 4) sc_head.nd rfl (by first | exact .inl rfl | exact .inr rfl) (pe_op op_add (pv 4) pe_int))))))))
      (pss_cons (ps_forKK PassesOwn.never rfl (pv 2) (pg_name (i := 3) sc_head.nd rfl (by first | exact .inl rfl | exact .inr rfl)) (pss_one (ps_if (pt_cmpR op_isN (pe_dget hu (pv 2) (pv 3) (fun _ _ => rfl)) pe_non (nomark _)) (pss_one (ps_ret pe_non)) pss_nil)))
      (pss_one (ps_ret (pe_tupN (pa_cons (pe_tuple (by rfl) tx.tuple_ (lcR (x1 := "_law_cell") (i := 3) rfl sc_head.nd (by rfl) tx.range_ (pv 1) (blkOk_by (own := [("_law_cell", 3)]) (N := N_head) (sc := defScope s_head) (by decide +kernel)) (fun _ _ _ _ _ => pg_name (i := 3) sc_head.nd rfl (Or.inl rfl)) (fun _ _ _ _ _ => (pe_cl d_built (hr.mono (by omega)) (pa_cons (pv 2) (pa_cons (pv 3) pa_nil))))).pe) (pa_cons (pv 4) pa_nil)))))))))), ?_⟩
    walk_at "go"
    intro p1 H1 n1 k1 h1
    walk_at "go"
    refine ⟨⟨fun q σ H' => ∃ o3, q ≤ m ∧ H' p1 = some (.dK (thF 0 (List.replicate q .non))) ∧ Kp [p1] H1 H' ∧ σ = [some (.ref a), some (.int m), some (.ref p1), o3, none, none],
      ⟨_, Nat.zero_le _, h1, Kp.refl _ _, rfl⟩, ?_, ?_⟩⟩
    · rintro q σ H2 hq ⟨o3, hq2, e1, e2, rfl⟩
      have hl9 : (thF 0 (List.replicate q V.non)).length ≤ 100000 := by rw [thF_len, List.length_replicate]; omega
      walk_at "go"
      intro H3 k3 h3
      refine ⟨_, by omega, ?_, e2.trans k3, rfl⟩
      rw [h3, ← rep_snoc]
      have := thF_add (List.replicate q V.non) .non
      rw [List.length_replicate] at this
      rw [this]
    · rintro σ H2 ⟨o3, hq2, e1, e2, rfl⟩
      walk_at "go"
      have h0 : Whd a p1 m H1 rH csF rH.length [some (.ref a), some (.int m), some (.ref p1), o3, some (.int (0 : Nat)), none] H2 :=
        ⟨0, _, _, o3, none, Nat.zero_le _, rfl, e1, OptsAt.nones m, hrun, hrun.len, e2, rfl⟩
      refine ⟨⟨Whd a p1 m H1 rH csF, ⟨_, h0⟩, ?_⟩⟩
      rintro q σ H3 ⟨i, cs, vs, o3, o5, hi, rfl, e1, e2, e3, e5, e4, rfl⟩
      have k03 : Kp [] H H3 := ((k1.any [p1]).trans e4).one rfl n1
      have ha3 := k03.obj0 ha
      have hrs3 := hrs.kp k03
      have hvl := e2.len
      have hl9 : (thF 0 vs).length ≤ 100000 := by rw [thF_len]; omega
      by_cases hlt : i < rH.length
      · have hir : rs[i]? = some rH[i] := by rw [ers, List.getElem?_append_left hlt, List.getElem?_eq_getElem hlt]
        obtain ⟨v, hv, b, rfl, hb⟩ := hrs3.get hir
        have hrm : rH[i] ∈ rH := List.getElem_mem hlt
        have hh := hhd _ hrm
        have hdrop : rH.drop i = rH[i] :: rH.drop (i + 1) := List.drop_eq_getElem_cons hlt
        rw [hdrop] at e3
        obtain ⟨more, em⟩ := rH[i].ks_head
        have hb0 : H3 b = some (.tup (.str rH[i].word :: more.map kV)) := by rw [hb, em]; rfl
        have hlt2 : decide ((i : Int) < ((xs.length : Nat) : Int)) = true := by
          rw [decide_eq_true_eq, hxl, ers, List.length_append]; omega
        refine ⟨_, rfl, _, rfl, a, xs, rfl, .inl ha3, _, _, rfl, rfl, _, rfl, itT hlt2 ?_⟩
        refine ⟨_, rfl, _, rfl, a, xs, i, _, rfl, rfl, ha3, hv, b, _, _, rfl, hb0, rfl, by decide, fun p H4 n4 k4 h4 => ⟨_, p, rfl, rfl, h4, _, rfl, itT (head_word hh) ?_⟩⟩
        refine ⟨fun σ' H' => Lp (∃ m', m' < rH.length - i ∧ Whd a p1 m H1 rH csF m' σ' H'), fun _ _ z => z.ex, ?_⟩
        have ha4 := k4.obj0 ha3
        have hd4 := k4.obj0 e1
        have hb4 := k4.tup hb
        have e24 := e2.kp k4
        clear hb0 em hb hir
        generalize rH[i] = r at *
        obtain ⟨cs1, hstep, hrun1⟩ := e3
        have hlen1 := hrun1.len
        cases r with
        | slot w c s2 =>
          have hob : OptAt H4 (.ref b) (some (.slot w c s2)) := ⟨b, rfl, hb4⟩
          obtain ⟨g1, g2⟩ := hstep
          obtain ⟨v0, g3, g4⟩ := e24.get g1
          have g4 : v0 = .non := g4
          subst g4
          have hclt : c < vs.length := (List.getElem?_eq_some_iff.mp g3).1
          have hget : valV (thF 0 vs) (.inl ((c : Nat) : Int) : L2.Key) = some .non := by rw [thF_get]; exact g3
          refine ⟨_, rfl, _, rfl, a, xs, i, _, rfl, rfl, ha4, hv, ?_⟩
          cases w with
          | false =>
            have hb4 : H4 b = some (.tup [.str "slot", .int c, .int s2]) := hb4
            walk_at "go"
            refine ⟨dgI hd4 hget, ?_⟩
            walk_at "go"
            refine ⟨dgI hd4 hget, ?_⟩
            walk_at "go"
            intro H5 k5 h5
            rw [thF_put hclt] at h5
            have hb5 := k5.tup hb4
            walk_at "go"
            exact ⟨⟨rH.length - (i + 1), by omega, i + 1, cs1, _, _, _, by omega, rfl, h5, (by rw [g2]; exact OptsAt.kp k5 (OptsAt.set hob c e24)), hrun1, hlen1, (e4.trans (k4.any _)).trans k5, rfl⟩⟩
          | true =>
            have hb4 : H4 b = some (.tup [.str "same", .int c, .int s2]) := hb4
            walk_at "go"
            refine ⟨dgI hd4 hget, ?_⟩
            walk_at "go"
            refine ⟨dgI hd4 hget, ?_⟩
            walk_at "go"
            intro H5 k5 h5
            rw [thF_put hclt] at h5
            have hb5 := k5.tup hb4
            walk_at "go"
            exact ⟨⟨rH.length - (i + 1), by omega, i + 1, cs1, _, _, _, by omega, rfl, h5, (by rw [g2]; exact OptsAt.kp k5 (OptsAt.set hob c e24)), hrun1, hlen1, (e4.trans (k4.any _)).trans k5, rfl⟩⟩
        | num c i2 =>
          have hob : OptAt H4 (.ref b) (some (.num c i2)) := ⟨b, rfl, hb4⟩
          obtain ⟨g1, g2⟩ := hstep
          obtain ⟨v0, g3, g4⟩ := e24.get g1
          have g4 : v0 = .non := g4
          subst g4
          have hclt : c < vs.length := (List.getElem?_eq_some_iff.mp g3).1
          have hget : valV (thF 0 vs) (.inl ((c : Nat) : Int) : L2.Key) = some .non := by rw [thF_get]; exact g3
          refine ⟨_, rfl, _, rfl, a, xs, i, _, rfl, rfl, ha4, hv, ?_⟩
          have hb4 : H4 b = some (.tup [.str "num", .int c, .int i2]) := hb4
          walk_at "go"
          refine ⟨dgI hd4 hget, ?_⟩
          walk_at "go"
          refine ⟨dgI hd4 hget, ?_⟩
          walk_at "go"
          intro H5 k5 h5
          rw [thF_put hclt] at h5
          have hb5 := k5.tup hb4
          walk_at "go"
          exact ⟨⟨rH.length - (i + 1), by omega, i + 1, cs1, _, _, _, by omega, rfl, h5, (by rw [g2]; exact OptsAt.kp k5 (OptsAt.set hob c e24)), hrun1, hlen1, (e4.trans (k4.any _)).trans k5, rfl⟩⟩
        | app c x m2 fr =>
          have hob : OptAt H4 (.ref b) (some (.app c x m2 fr)) := ⟨b, rfl, hb4⟩
          obtain ⟨g1, gf, gm, g2⟩ := hstep
          obtain ⟨v0, g3, g4⟩ := e24.get g1
          have g4 : v0 = .non := g4
          subst g4
          have hclt : c < vs.length := (List.getElem?_eq_some_iff.mp g3).1
          have hget : valV (thF 0 vs) (.inl ((c : Nat) : Int) : L2.Key) = some .non := by rw [thF_get]; exact g3
          refine ⟨_, rfl, _, rfl, a, xs, i, _, rfl, rfl, ha4, hv, ?_⟩
          have hb4 : H4 b = some (.tup [.str "app", .int c, .str x, .int m2, .int fr]) := hb4
          walk_at "go"
          refine ⟨dgI hd4 hget, ?_⟩
          walk_at "go"
          refine ⟨dgI hd4 hget, ?_⟩
          walk_at "go"
          intro H5 k5 h5
          rw [thF_put hclt] at h5
          have hb5 := k5.tup hb4
          have e4' : (if (4 : Int) < ((m2 : Nat) : Int) then (4 : Int) else ((m2 : Nat) : Int)) = ((m2 : Nat) : Int) := by rw [if_neg (by omega)]
          have hopt := OptsAt.kp k5 (OptsAt.set hob c e24)
          have hsl1 : (vs.set c (.ref b)).length = fr := by rw [List.length_set, gf]; exact hvl
          have hfr : fr + m2 ≤ 200 := by
            rw [g2, List.length_append, List.length_set, List.length_replicate] at hlen1
            omega
          walk_at "go"
          rw [e4']
          refine ⟨(rfl : V.int (((fr : Nat) : Int) + ((m2 : Nat) : Int)) = V.int ((fr + m2 : Nat) : Int)), by omega, by omega, ⟨⟨fun q σ H' => ∃ o3, q ≤ m2 ∧ H' p1 = some (.dK (thF 0 (vs.set c (.ref b) ++ List.replicate q .non))) ∧ Kp [p1] H5 H' ∧ σ = [some (.ref a), some (.int m), some (.ref p1), o3, some (.int (i : Nat)), some (.ref b)],
            ⟨_, Nat.zero_le _, by rw [List.replicate_zero, List.append_nil]; exact h5, Kp.refl _ _, rfl⟩, ?_, ?_⟩⟩⟩
          · rintro q σ H6 hq ⟨o3, hq2, f1, f2, rfl⟩
            have hll : (vs.set c (V.ref b) ++ List.replicate q V.non).length = fr + q := by rw [List.length_append, hsl1, List.length_replicate]
            have hl9 : (thF 0 (vs.set c (V.ref b) ++ List.replicate q V.non)).length ≤ 100000 := by rw [thF_len, hll]; omega
            walk_at "go"
            refine ⟨dgI f1 ((thF_get _ _).trans (List.getElem?_eq_none (Nat.le_of_eq hll))), ?_⟩
            walk_at "go"
            intro H7 k7 h7
            refine ⟨_, by omega, ?_, f2.trans k7, rfl⟩
            have := thF_add (vs.set c (V.ref b) ++ List.replicate q V.non) .non
            rw [hll] at this
            rw [h7, this, List.append_assoc, rep_snoc]
          · rintro σ H6 ⟨o3, hq2, f1, f2, rfl⟩
            have em : fr + m2 - fr = m2 := by omega
            rw [em] at f1
            walk_at "go"
            refine ⟨⟨rH.length - (i + 1), by omega, i + 1, cs1, _, _, _, by omega, rfl, f1, ?_, hrun1, hlen1, ((e4.trans (k4.any _)).trans k5).trans f2, rfl⟩⟩
            rw [g2]
            exact OptsAt.append (OptsAt.kp f2 hopt) (OptsAt.nones m2)
        | _ => exact False.elim hstep
      · have hie : i = rH.length := by omega
        subst hie
        rw [List.drop_length] at e3
        have e3 : csF = cs := e3
        subst e3
        have endw : ∀ H4, Kp [] H3 H4 → 
            tSeq (uForKK 2 3 (tIfS (tTest (tOp (fun x y H Q => y = V.non ∧ Q (V.bl (decide (x = V.non))) H) (tDGet (tVar 2) (tVar 3)) (tC V.non))) (tRet (tC V.non)) tNext))
              (tRet (uTup (tCons (uTuple (uLcR (tVar 1) 3 (uCall (spBuilt 100) (tCons (tVar 2) (tCons (tVar 3) tNil))))) (tCons (tVar 4) tNil)))) { nx := fun _ H' => Q .non H', rt := Q } [some (.ref a), some (.int m), some (.ref p1), o3, some (.int (rH.length : Nat)), o5] H4 := by
          intro H4 k4
          have hd4 := k4.obj0 e1
          have e24 := e2.kp k4
          refine ⟨p1, _, rfl, hd4, fun od H5 k5 h5 => ⟨⟨fun q σ H' => ∃ o3, Kp [p1] H4 H' ∧ H' p1 = some (.frz od (.dK (thF 0 vs))) ∧ σ = [some (.ref a), some (.int m), some (.ref p1), o3, some (.int (rH.length : Nat)), o5], ⟨_, k5, h5, rfl⟩, ?_, ?_, ?_⟩⟩⟩
          · rintro q σ H' ⟨o3, f1, f2, rfl⟩; exact f2
          · rintro q kk v σ H' hkv ⟨o3, f1, f2, rfl⟩
            obtain ⟨g1, g2⟩ := key_thF vs 0 q kk v hkv
            subst g1
            have hqv : q < vs.length := (List.getElem?_eq_some_iff.mp g2).1
            obtain ⟨r, hr⟩ := hall q (by omega)
            obtain ⟨v', hv1, b, hv2, hv3⟩ := e24.get hr
            have evv : v' = v := by rw [hv1] at g2; exact Option.some.inj g2
            subst evv
            subst hv2
            refine ⟨_, rfl, _, rfl, p1, .ref b, rfl, .inl ⟨_, .inl ((0 + q : Nat) : Int), .inr ⟨od, f2⟩, rfl, ?_⟩, rfl, _, rfl, iteF ⟨_, f1, f2, rfl⟩⟩
            rw [valV_thF]; exact hv1.symm
          · rintro σ H' ⟨o3, f1, f2, rfl⟩
            intro H6 k6 h6
            have k46 : Kp [p1] H4 H6 := f1.trans k6
            have e26 : OptsAt H6 vs csF := e24.kp k46
            have k06 : Kp [] H H6 := ((((k1.any [p1]).trans e4).trans (k4.any _)).trans k46).one rfl n1
            have hbt : ∀ (ks : List GT.T) (n q : Nat) (t : GT.T), Bts g csF n ks → ks[q]? = some t → Bt g csF (n + q) t := by
              intro ks
              induction ks with
              | nil => intro n q t _ e; simp at e
              | cons a r ih =>
                intro n q t hb e
                cases q with
                | zero => cases e; exact hb.1
                | succ q =>
                  have := ih (n + 1) q t hb.2 (by simpa using e)
                  have e2 : n + (q + 1) = n + 1 + q := by omega
                  rw [e2]; exact this
            refine ⟨_, rfl, m, rfl, [], _, LcOk.mk' (fun q ys H => TAs (fun x => .int ((g x : Nat) : Int)) H ys (ks.take q) ∧ q ≤ ks.length) (by omega) (by simp) ⟨trivial, Nat.zero_le _⟩ (fun m ys H H' D hD kk r k => ⟨r.1.kp k, r.2⟩) ?_ ?_ ?_⟩
            · rintro q ys H ⟨r, hm⟩
              rw [r.len, List.length_take]; omega
            · rintro q ys H7 hq kk ⟨r, hm2⟩
              have hlt : q < ks.length := by omega
              have h1 : ks[q]? = some ks[q] := List.getElem?_eq_getElem hlt
              have hsz2 := sizes_mem (List.mem_of_getElem? h1)
              have hb0 := hbt ks 0 q _ hbts h1
              rw [Nat.zero_add] at hb0
              refine ⟨_, rfl, _, rfl, p1, q, vs, csF, g, ks[q], rfl, kk.obj0 h6, e26.kp kk, hb0, oks_mem hok (List.mem_of_getElem? h1), by omega, fun u H' hu2 k => ⟨k, kk.trans k, ?_, by omega⟩⟩
              rw [take_succ h1]
              exact (r.kp k).snoc hu2
            · rintro ys H7 p hp kk ⟨r, _⟩ e
              rw [← hkm, List.take_length] at r
              refine ⟨p, ys, rfl, e, fun p8 H8 n8 k8 h8 => ?_⟩
              refine ⟨_, rfl, Nat.le_of_ble_eq_true rfl, fun p9 H9 n9 k9 h9 => ?_⟩
              exact h p9 p8 ys H9 h9 (k9.tup h8) ((r.kp k8).kp k9) (((k06.trans kk).trans k8).trans k9)
        cases hre : rest with
        | nil =>
          have hxl2 : xs.length = rH.length := by rw [hxl, ers, hre, List.append_nil]
          refine ⟨_, rfl, _, rfl, a, xs, rfl, .inl ha3, _, _, rfl, rfl, _, rfl, itF (by rw [decide_eq_false_iff_not, hxl2]; omega) ?_⟩
          exact iteF (endw H3 (Kp.refl _ _))
        | cons r rest' =>
          have hr0 := hrest r (by rw [hre]; rfl)
          have hir : rs[rH.length]? = some r := by rw [ers, hre, List.getElem?_append_right (Nat.le_refl _), Nat.sub_self]; rfl
          obtain ⟨v, hv, b, rfl, hb⟩ := hrs3.get hir
          obtain ⟨more, em⟩ := r.ks_head
          have hb0 : H3 b = some (.tup (.str r.word :: more.map kV)) := by rw [hb, em]; rfl
          have hlt2 : decide (((rH.length : Nat) : Int) < ((xs.length : Nat) : Int)) = true := by
            rw [decide_eq_true_eq, hxl, ers, hre, List.length_append, List.length_cons]; omega
          refine ⟨_, rfl, _, rfl, a, xs, rfl, .inl ha3, _, _, rfl, rfl, _, rfl, itT hlt2 ?_⟩
          refine ⟨_, rfl, _, rfl, a, xs, rH.length, _, rfl, rfl, ha3, hv, b, _, _, rfl, hb0, rfl, by decide, fun p H4 n4 k4 h4 => ⟨_, p, rfl, rfl, h4, _, rfl, itF (nohead_word hr0) ?_⟩⟩
          exact endw H4 k4
end
end GT
/-! GuA: the law reads: goal_read. -/
namespace GT
open PySem L2 GL PyProof.Rows RT
/-! tactics: a fact of the heap by what was kept; the reading's small steps -/
local macro_rules | `(tactic| walk_at "hp") => `(tactic| first | assumption | (refine Kp.tup (by assumption) ?_; walk_at "hp") | (refine Kp.obj0 (by assumption) ?_; walk_at "hp") | (refine Kp.obj1 (by assumption) ?_ (by first | assumption | (apply Ne.symm; assumption)); walk_at "hp"))
local macro_rules | `(tactic| walk_at "kp") => `(tactic| first | assumption | exact Kp.refl _ _ | (refine Kp.trans ?_ (Kp.wk (by assumption) (by simp)); walk_at "kp"))
local macro_rules | `(tactic| walk_at "nn") => `(tactic| first | assumption | (refine Kp.fr (by assumption) _ ?_; walk_at "nn"))
local macro_rules | `(tactic| walk_at "go") => `(tactic| repeat (first | (refine And.intro ?_ ?_; (first | rfl | walk_at "hp" | decide | (refine Or.inl ?_; walk_at "hp") | (refine Or.inr ?_; walk_at "hp") | (refine SqL.of ?_; walk_at "hp") | exact Nat.le_of_ble_eq_true rfl | exact kvS _ | exact kvI _ | exact cmulL rfl | exact cmulR rfl | exact cpw rfl | exact cdv rfl | exact Ty.int _ | exact Ty.str _ | exact Ty.bl _ | exact Ty.lst (by walk_at "hp") | exact Ty.tup (by walk_at "hp") | walk_at "kp" | omega | (dsimp only; first | decide | omega))) | apply Exists.intro))

abbrev GSt := Nat → Option GT.T
def gup (S : GSt) (c : Nat) (t : GT.T) : GSt := fun j => if j = c then some t else S j
def GStep (f : Str → Nat) (S : GSt) : Row → GSt → Prop
  | .put c s, S' => ∃ x, f x = s ∧ S' = gup S c (.any x)
  | .putnum c i, S' => S' = gup S c (.num i)
  | .build c g m fr, S' => ∃ ks : List GT.T, ks.length = m ∧ m ≤ 4 ∧ (∀ i t, ks[i]? = some t → S (fr + i) = some t) ∧ S' = gup S c (.app g ks)
  | _, _ => False
def GRun (f : Str → Nat) : GSt → List Row → GSt → Prop
  | S, [], S' => S' = S
  | S, r :: rs, S' => ∃ S1, GStep f S r S1 ∧ GRun f S1 rs S'
theorem GRun.append {f : Str → Nat} : ∀ {r1 r2 : List Row} {a b c : GSt}, GRun f a r1 b → GRun f b r2 c → GRun f a (r1 ++ r2) c
  | [], r2, a, b, c, h1, h2 => by
    have e : b = a := h1
    subst e; exact h2
  | r :: rs, r2, a, b, c, ⟨c1, h, h1⟩, h2 => ⟨c1, h, GRun.append h1 h2⟩
mutual
theorem bring_run (f : Str → Nat) : ∀ (t : GT.T) (c n : Nat) (S : GSt), t.ok → c < n → ∃ S', GRun f S (bring f c t n) S' ∧ S' c = some t ∧ ∀ j, j < n → j ≠ c → S' j = S j
  | .any x, c, n, S, _, _ => ⟨_, ⟨_, ⟨x, rfl, rfl⟩, rfl⟩, by unfold gup; rw [if_pos rfl], fun j _ h => by unfold gup; rw [if_neg h]⟩
  | .num i, c, n, S, _, _ => ⟨_, ⟨_, rfl, rfl⟩, by unfold gup; rw [if_pos rfl], fun j _ h => by unfold gup; rw [if_neg h]⟩
  | .app s ks, c, n, S, ok, hc => by
    obtain ⟨S1, h1, h2, h3⟩ := brings_run f ks n (n + ks.length) S ok.2.2 (Nat.le_refl _)
    refine ⟨gup S1 c (.app s ks), GRun.append h1 ⟨_, ⟨ks, rfl, ok.2.1, h2, rfl⟩, rfl⟩, by unfold gup; rw [if_pos rfl], fun j hj hne => ?_⟩
    unfold gup
    rw [if_neg hne]
    exact h3 j (by omega) (.inl hj)
theorem brings_run (f : Str → Nat) : ∀ (ks : List GT.T) (c n : Nat) (S : GSt), oks ks → c + ks.length ≤ n → ∃ S', GRun f S (brings f c ks n) S' ∧ (∀ i t, ks[i]? = some t → S' (c + i) = some t) ∧ ∀ j, j < n → (j < c ∨ c + ks.length ≤ j) → S' j = S j
  | [], c, n, S, _, _ => ⟨S, rfl, fun i t h => by simp at h, fun _ _ _ => rfl⟩
  | t :: r, c, n, S, ok, hc => by
    rw [List.length_cons] at hc
    obtain ⟨S1, h1, h2, h3⟩ := bring_run f t c n S ok.1 (by omega)
    obtain ⟨S2, g1, g2, g3⟩ := brings_run f r (c + 1) (n + t.cells) S1 ok.2 (by omega)
    refine ⟨S2, GRun.append h1 g1, fun i u hi => ?_, fun j hj hne => ?_⟩
    · cases i with
      | zero =>
        have e : t = u := by simpa using hi
        rw [Nat.add_zero, g3 c (by omega) (.inl (by omega)), h2, e]
      | succ i =>
        have := g2 i u (by simpa using hi)
        have e : c + (i + 1) = c + 1 + i := by omega
        rw [e]; exact this
    · rw [List.length_cons] at hne
      rw [g3 j (by omega) (by omega), h3 j hj (by omega)]
end
mutual
theorem bring_fr (f : Str → Nat) : ∀ (t : GT.T) (c n : Nat), ∀ r ∈ bring f c t n, ∀ c' g m fr, r = .build c' g m fr → fr ≤ n + t.cells
  | .any x, c, n, r, h, _, _, _, _, e => by rw [bring, List.mem_singleton] at h; subst h; cases e
  | .num i, c, n, r, h, _, _, _, _, e => by rw [bring, List.mem_singleton] at h; subst h; cases e
  | .app s ks, c, n, r, h, c', g, m, fr, e => by
    rw [bring] at h
    rcases List.mem_append.mp h with h | h
    · have := brings_fr f ks n (n + ks.length) r h c' g m fr e
      simp only [GT.T.cells]; omega
    · rw [List.mem_singleton] at h
      subst h
      cases e; omega
theorem brings_fr (f : Str → Nat) : ∀ (ks : List GT.T) (c n : Nat), ∀ r ∈ brings f c ks n, ∀ c' g m fr, r = .build c' g m fr → fr ≤ n + cellss ks
  | [], c, n, r, h, _, _, _, _, _ => by cases h
  | t :: q, c, n, r, h, c', g, m, fr, e => by
    rw [brings] at h
    rcases List.mem_append.mp h with h | h
    · have := bring_fr f t c n r h c' g m fr e
      simp only [cellss]; omega
    · have := brings_fr f q (c + 1) (n + t.cells) r h c' g m fr e
      simp only [cellss]; omega
end
/-- the last row of a goal -/
inductive GEnd : GT.T → List GT.T → Row → Prop where
  | call {s : Str} {ks : List GT.T} : GEnd (.app s ks) ks (.call s ks.length)
  | jump {s : Str} {ks : List GT.T} : GEnd (.app s ks) ks (.jump s ks.length)
  | nt {s : Str} {ks : List GT.T} : GEnd (.app "not" [.app s ks]) ks (.nt s ks.length)
  | deed (q : Deed) {ks : List GT.T} (h : ks.length = q.many) : GEnd (.app q.sign ks) ks (.deed q)
theorem GR.ends {f : Str → Nat} {j : Bool} {t : GT.T} {rg : List Row} (h : GR f j t rg) (ok : t.ok) : ∃ ks last, rg = brings f 0 ks ks.length ++ [last] ∧ ks.length ≤ 4 ∧ oks ks ∧ sizes ks ≤ t.size ∧ GEnd t ks last := by
  cases h with
  | named hw =>
    rename_i s ks
    refine ⟨ks, _, rfl, ok.2.1, ok.2.2, by simp only [GT.T.size]; omega, ?_⟩
    cases j
    · exact .call
    · exact .jump
  | nt hw =>
    rename_i s ks
    exact ⟨ks, _, rfl, ok.2.2.1.2.1, ok.2.2.1.2.2, by simp only [GT.T.size, sizes]; omega, .nt⟩
  | deed q hq =>
    rename_i ks
    exact ⟨ks, _, rfl, ok.2.1, ok.2.2, by simp only [GT.T.size]; omega, .deed q hq⟩
theorem bring_word {r : Row} (h : r.isBring = true) : decide (r.word ∈ (["put", "putnum", "build"] : List Str)) = true := by
  cases r with
  | put c s => exact (by decide +kernel : decide (("put" : Str) ∈ (["put", "putnum", "build"] : List Str)) = true)
  | putnum c s => exact (by decide +kernel : decide (("putnum" : Str) ∈ (["put", "putnum", "build"] : List Str)) = true)
  | build c g m f => exact (by decide +kernel : decide (("build" : Str) ∈ (["put", "putnum", "build"] : List Str)) = true)
  | _ => cases h
theorem end_word {t : GT.T} {ks : List GT.T} {r : Row} (h : GEnd t ks r) : decide (r.word ∈ (["put", "putnum", "build"] : List Str)) = false := by
  cases h with
  | call => exact (by decide +kernel : decide (("call" : Str) ∈ (["put", "putnum", "build"] : List Str)) = false)
  | jump => exact (by decide +kernel : decide (("jump" : Str) ∈ (["put", "putnum", "build"] : List Str)) = false)
  | nt => exact (by decide +kernel : decide (("not" : Str) ∈ (["put", "putnum", "build"] : List Str)) = false)
  | deed q => cases q <;> decide +kernel
def CellsAt (f : Str → Nat) (H : Hp) (kvs : List (L2.Key × V)) (S : GSt) : Prop := ∀ c t, S c = some t → ∃ u, valV kvs (.inl ((c : Nat) : Int) : L2.Key) = some u ∧ TA (fun x => .int ((f x : Nat) : Int)) H u t
theorem CellsAt.kp {f : Str → Nat} {S' : List Addr} {H H' : Hp} {kvs : List (L2.Key × V)} {S : GSt} (h : CellsAt f H kvs S) (k : Kp S' H H') : CellsAt f H' kvs S := fun c t e => let ⟨u, h1, h2⟩ := h c t e; ⟨u, h1, h2.kp k⟩
theorem CellsAt.put {f : Str → Nat} {H : Hp} {kvs : List (L2.Key × V)} {S : GSt} (h : CellsAt f H kvs S) {c : Nat} {t : GT.T} {u : V} (hu : TA (fun x => .int ((f x : Nat) : Int)) H u t) : CellsAt f H (putK kvs (.inl ((c : Nat) : Int)) u) (gup S c t) := fun j t' e => by
  rw [valV_put]
  unfold gup at e
  by_cases hj : j = c
  · subst hj
    rw [if_pos rfl] at e
    cases e
    exact ⟨u, if_pos rfl, hu⟩
  · rw [if_neg hj] at e
    rw [if_neg (fun z => hj (by have := Sum.inl.inj z; omega))]
    exact h j t' e
/-- kids in a row of cells -/
theorem CellsAt.kids {f : Str → Nat} {H : Hp} {kvs : List (L2.Key × V)} {S : GSt} (h : CellsAt f H kvs S) : ∀ (ks : List GT.T) (fr : Nat), (∀ i t, ks[i]? = some t → S (fr + i) = some t) → ∃ us, us.length = ks.length ∧ (∀ j u, us[j]? = some u → valV kvs (.inl ((fr + j : Nat) : Int) : L2.Key) = some u) ∧ TAs (fun x => .int ((f x : Nat) : Int)) H us ks
  | [], fr, _ => ⟨[], rfl, fun j u e => by simp at e, trivial⟩
  | t :: r, fr, hk => by
    obtain ⟨u, h1, h2⟩ := h fr t (by have := hk 0 t rfl; simpa using this)
    obtain ⟨us, g1, g2, g3⟩ := CellsAt.kids h r (fr + 1) fun i t' e => by
      have := hk (i + 1) t' (by simpa using e)
      have e2 : fr + (i + 1) = fr + 1 + i := by omega
      rw [e2] at this; exact this
    refine ⟨u :: us, by simp [g1], fun j v e => ?_, h2, g3⟩
    cases j with
    | zero =>
      have e : u = v := by simpa using e
      rw [← e]; exact h1
    | succ j =>
      have := g2 j v (by simpa using e)
      have e2 : fr + (j + 1) = fr + 1 + j := by omega
      rw [e2]; exact this
def ddD : List (L2.Key × V) := [(.inr "equal", .str "="), (.inr "reckon", .str ":="), (.inr "less", .str "<"), (.inr "atmost", .str "<=")]
section
variable {P : Program} {w : World} {K : PySem.W.Frag} {mg : Str → Option Value} {base : Heap} {C d : Addr} {es : Array DictEntry} {n : Nat} {k : Nat}
abbrev s_goal_read : Stmt := (topS 34)
abbrev N_goal_read : List Str := ["_law_rows", "_law_at", "_law_deeds", "_law_cells", "_law_row", "_law_goal"]
theorem sc_goal_read : FnScope N_goal_read ["_law_rows", "_law_at"] (defScope s_goal_read) := ⟨rfl, rfl, rfl, by decide +kernel, rfl, by decide +kernel, by decide +kernel⟩

def spGoalRead : Sp := fun vs H Q _ => ∃ (a : Addr) (xs : List V) (pre rg post : List Row) (f : Str → Nat) (j : Bool) (t : GT.T), vs = [.ref a, .int (pre.length : Nat)] ∧ H a = some (.lst xs) ∧ RowsAt H xs (pre ++ rg ++ post) ∧ GR f j t rg ∧ t.ok ∧ t.size ≤ 100 ∧ (pre ++ rg ++ post).length ≤ 1000 ∧
  ∀ p u H', H' p = some (.tup [u, .int ((pre ++ rg).length : Nat)]) → TA (fun x => .int ((f x : Nat) : Int)) H' u t → Kp [] H H' → Q (.ref p) H'
def Wgr (f : Str → Nat) (a p1 p2 : Addr) (np : Nat) (H2 : Hp) (bs : List Row) (SF : GSt) : Nat → L2.St → Hp → Prop := fun q σ H' => ∃ (i : Nat) (S : GSt) (kvs : List (L2.Key × V)) (o4 : Option V), i ≤ bs.length ∧ q = bs.length - i ∧ H' p2 = some (.dK kvs) ∧ kvs.length ≤ i ∧ CellsAt f H' kvs S ∧ GRun f S (bs.drop i) SF ∧
  Kp [p2] H2 H' ∧ σ = [some (.ref a), some (.int ((np + i : Nat) : Int)), some (.ref p1), some (.ref p2), o4, none]
theorem ok_goal_read (tx : Txt K w mg C d es n) (d_taken : Def P w K mg base "_law_taken" k ["_law_cells", "_law_first", "_law_many"] spTaken) (D : DefAt K mg "_law_goal_read" s_goal_read ["_law_rows", "_law_at"]) : Def P w K mg base "_law_goal_read" (k + 1) ["_law_rows", "_law_at"] spGoalRead := by
  refine D.ok sc_goal_read (fun vs H Q E h => ?_) (fun f cdv A outer s H vs Q E hr h => ?_)
  · obtain ⟨a, xs, pre, rg, post, g, j, t, rfl, _⟩ := h; rfl
  · obtain ⟨a, xs, pre, rg, post, g, j, t, rfl, ha, hrs, hgr, hok, hsz, hlen, h⟩ := h
    have hu := hu_of hr
    obtain ⟨ks, last, erg, hk4, hoks, hksz, hend⟩ := hgr.ends hok
    obtain ⟨SF, hrun, hcells, _⟩ := brings_run g ks 0 ks.length (fun _ => none) hoks (by omega)
    have hbb := brings_brings g ks 0 ks.length
    have hbf := brings_fr g ks 0 ks.length
    have hce := cellss_eq ks
    obtain ⟨bs, ebs⟩ : ∃ bs, bs = brings g 0 ks ks.length := ⟨_, rfl⟩
    rw [← ebs] at hrun hbb hbf erg
    have hxl := hrs.len
    have hrl : rg.length = bs.length + 1 := by rw [erg, List.length_append, List.length_singleton]
    have hll : (pre ++ rg ++ post).length = pre.length + (bs.length + 1) + post.length := by rw [List.length_append, List.length_append, hrl]
    refine ⟨_, (pss_cons (ps_set (i := 2) sc_goal_read.nd rfl (by first | exact .inl rfl | exact .inr rfl) (pe_dispN (pps_cons pe_str pe_str (pps_cons pe_str pe_str (pps_cons pe_str pe_str (pps_cons pe_str pe_str pps_nil)))) (by rfl) (by rfl) (fun z => by cases z) (by decide)))
      (pss_cons (ps_set (i := 3) sc_goal_read.nd rfl (by first | exact .inl rfl | exact .inr rfl) pe_dnewKN)
      (pss_cons (ps_whileN PassesOwn.never (PW.pt (pw_and (pt_cmpR op_lt (pv 1) (pe_len (by rfl) tx.len_ (pv 0)) (nomark _)) (pw_and1 (pt_cmpR (op_inS ["put", "putnum", "build"]) (pe_tc (n := 0) (pe_il (pv 0) (pv 1))) (pe_tupN (pa_cons pe_str (pa_cons pe_str (pa_cons pe_str pa_nil)))) (by rfl))))) (pss_cons (ps_set (i := 4) sc_goal_read.nd rfl (by first | exact .inl rfl | exact .inr rfl) (pe_il (pv 0) (pv 1)))
      (pss_cons (ps_if (pt_cmpR op_eq (pe_tc (n := 0) (pv 4)) pe_str (nomark _)) (pss_one (ps_putK hu (pv 3) (pe_tc (n := 1) (pv 4)) (pe_tupN (pa_cons pe_str (pa_cons (pe_tc (n := 2) (pv 4)) pa_nil))))) (pss_one (ps_if (pt_cmpR op_eq (pe_tc (n := 0) (pv 4)) pe_str (nomark _)) (pss_one (ps_putK hu (pv 3) (pe_tc (n := 1) (pv 4)) (pe_tupN (pa_cons pe_str (pa_cons (pe_tc (n := 2) (pv 4)) pa_nil))))) (pss_one (ps_putK hu (pv 3) (pe_tc (n := 1) (pv 4)) (pe_tupN (pa_cons pe_str (pa_cons (pe_tc (n := 2) (pv 4)) (pa_cons (pe_cl d_taken (hr.mono (by omega)) (pa_cons (pv 3) (pa_cons (pe_tc (n := 4) (pv 4)) (pa_cons (pe_tc (n := 3) (pv 4)) pa_nil)))) pa_nil)))))))))
      (pss_one (ps_set (i := 1) sc_goal_read.nd rfl (by first | exact .inl rfl | exact .inr rfl) (pe_op op_add (pv 1) pe_int))))))
      (pss_cons (ps_if (pt_cmpR op_eq (pv 1) (pe_len (by rfl) tx.len_ (pv 0)) (nomark _)) (pss_one (ps_ret (pe_tupN (pa_cons pe_non (pa_cons (pv 1) pa_nil))))) pss_nil)
      (pss_cons (ps_set (i := 4) sc_goal_read.nd rfl (by first | exact .inl rfl | exact .inr rfl) (pe_il (pv 0) (pv 1)))
      (pss_cons (ps_if (pt_cmpR op_eq (pe_tc (n := 0) (pv 4)) pe_str (nomark _)) (pss_one (ps_ret (pe_tupN (pa_cons (pe_tupN (pa_cons pe_str (pa_cons pe_str (pa_cons (pe_tupN pa_nil) pa_nil)))) (pa_cons (pe_op op_add (pv 1) pe_int) pa_nil))))) pss_nil)
      (pss_cons (ps_if (pt_cmp (pc_din hu (pe_tc (n := 0) (pv 4)) (pv 2)) (by rfl)) (pss_one (ps_ret (pe_tupN (pa_cons (pe_tupN (pa_cons pe_str (pa_cons (pe_dget hu (pv 2) (pe_tc (n := 0) (pv 4)) (fun _ _ => rfl)) (pa_cons (pe_cl d_taken (hr.mono (by omega)) (pa_cons (pv 3) (pa_cons pe_int (pa_cons pe_int pa_nil)))) pa_nil)))) (pa_cons (pe_op op_add (pv 1) pe_int) pa_nil))))) pss_nil)
      (pss_cons (ps_if (pt_cmpR (op_niS ["call", "jump", "not"]) (pe_tc (n := 0) (pv 4)) (pe_tupN (pa_cons pe_str (pa_cons pe_str (pa_cons pe_str pa_nil)))) (by rfl)) (pss_one (ps_ret (pe_tupN (pa_cons pe_non (pa_cons (pe_op op_add (pv 1) pe_int) pa_nil))))) pss_nil)
      (pss_cons (ps_set (i := 5) sc_goal_read.nd rfl (by first | exact .inl rfl | exact .inr rfl) (pe_tupN (pa_cons pe_str (pa_cons (pe_tc (n := 1) (pv 4)) (pa_cons (pe_cl d_taken (hr.mono (by omega)) (pa_cons (pv 3) (pa_cons pe_int (pa_cons (pe_tc (n := 2) (pv 4)) pa_nil)))) pa_nil)))))
      (pss_cons (ps_if (pt_cmpR op_eq (pe_tc (n := 0) (pv 4)) pe_str (nomark _)) (pss_one (ps_ret (pe_tupN (pa_cons (pe_tupN (pa_cons pe_str (pa_cons pe_str (pa_cons (pe_tupN (pa_cons (pv 5) pa_nil)) pa_nil)))) (pa_cons (pe_op op_add (pv 1) pe_int) pa_nil))))) pss_nil)
      (pss_one (ps_ret (pe_tupN (pa_cons (pv 5) (pa_cons (pe_op op_add (pv 1) pe_int) pa_nil))))))))))))))), ?_⟩
    intro p1 H1 n1 k1 h1
    refine ⟨h1, ddD, rfl, by decide, fun H2 k2 h2 => ?_⟩
    have h2 : H2 p1 = some (.dK ddD) := h2
    walk_at "go"
    intro p2 H3 n3 k3 h3
    have n12 : p1 ≠ p2 := by rintro rfl; rw [h2] at n3; cases n3
    have k03 : Kp [] H H3 := (((k1.any [p1]).trans k2).one rfl n1).trans k3
    have hd3 := k3.obj0 h2
    have h0 : Wgr g a p1 p2 pre.length H3 bs SF bs.length [some (.ref a), some (.int ((pre.length + 0 : Nat) : Int)), some (.ref p1), some (.ref p2), none, none] H3 :=
      ⟨0, _, [], none, Nat.zero_le _, rfl, h3, Nat.le_refl _, fun c t e => (by cases e), hrun, Kp.refl _ _, rfl⟩
    refine ⟨⟨Wgr g a p1 p2 pre.length H3 bs SF, ⟨_, h0⟩, ?_⟩⟩
    rintro q σ H4 ⟨i, S, kvs, o4, hi, rfl, e1, e2, e3, e5, e4, rfl⟩
    have k04 : Kp [] H H4 := ((k03.any [p2]).trans e4).one rfl (((k1.any [p1]).trans k2 |>.one rfl n1 : Kp [] H H2).fr _ n3)
    have ha4 := k04.obj0 ha
    have hrs4 := hrs.kp k04
    have hd4 := e4.obj1 hd3 n12
    have hlt2 : decide (((pre.length + i : Nat) : Int) < ((xs.length : Nat) : Int)) = true := by
      rw [decide_eq_true_eq, hxl, hll]; omega
    by_cases hlt : i < bs.length
    · have hir : (pre ++ rg ++ post)[pre.length + i]? = some bs[i] := by
        rw [List.append_assoc, List.getElem?_append_right (by omega), Nat.add_sub_cancel_left, erg, List.append_assoc, List.getElem?_append_left hlt, List.getElem?_eq_getElem hlt]
      obtain ⟨v, hv, b, rfl, hb⟩ := hrs4.get hir
      have hh := hbb _ (List.getElem_mem hlt)
      have hf := hbf _ (List.getElem_mem hlt)
      have hdrop : bs.drop i = bs[i] :: bs.drop (i + 1) := List.drop_eq_getElem_cons hlt
      rw [hdrop] at e5
      obtain ⟨more, em⟩ := bs[i].ks_head
      have hb0 : H4 b = some (.tup (.str bs[i].word :: more.map kV)) := by rw [hb, em]; rfl
      refine ⟨_, rfl, _, rfl, a, xs, rfl, .inl ha4, _, _, rfl, rfl, _, rfl, itT hlt2 ?_⟩
      refine ⟨_, rfl, _, rfl, a, xs, pre.length + i, _, rfl, rfl, ha4, hv, b, _, _, rfl, hb0, rfl, Nat.le_of_ble_eq_true rfl, fun p H5 n5 k5 h5 => ⟨_, p, rfl, rfl, h5, _, rfl, itT (bring_word hh) ?_⟩⟩
      refine ⟨fun σ' H' => Lp (∃ m', m' < bs.length - i ∧ Wgr g a p1 p2 pre.length H3 bs SF m' σ' H'), fun _ _ z => z.ex, ?_⟩
      have ha5 := k5.obj0 ha4
      have hd5 := k5.obj0 e1
      have hb5 := k5.tup hb
      have e35 := e3.kp k5
      have hkl : kvs.length ≤ 100000 := by omega
      clear hb0 em hb hir
      generalize bs[i] = r at *
      obtain ⟨S1, hstep, hrun1⟩ := e5
      refine ⟨_, rfl, _, rfl, a, xs, pre.length + i, _, rfl, rfl, ha5, hv, ?_⟩
      cases r with
      | put c s2 =>
        obtain ⟨x, hx, es1⟩ := hstep
        have hb5 : H5 b = some (.tup [.str "put", .int c, .int s2]) := hb5
        walk_at "go"
        intro p6 H6 n6 k6 h6
        have hb6 := k6.tup hb5
        have hd6 := k6.obj0 hd5
        walk_at "go"
        intro H7 k7 h7
        have hb7 := k7.tup hb6
        walk_at "go"
        have hta : TA (fun x => .int ((g x : Nat) : Int)) H7 (.ref p6) (.any x) := ⟨p6, rfl, by rw [k7.tup h6, ← hx]⟩
        have hlk := length_putK kvs (.inl ((c : Nat) : Int) : L2.Key) (.ref p6)
        exact ⟨⟨bs.length - (i + 1), by omega, i + 1, S1, _, _, by omega, rfl, h7, by omega, by rw [es1]; exact CellsAt.put ((e35.kp k6).kp k7) hta, hrun1, ((e4.trans (k5.any _)).trans (k6.any _)).trans k7, rfl⟩⟩
      | putnum c i2 =>
        have es1 : S1 = gup S c (.num i2) := hstep
        have hb5 : H5 b = some (.tup [.str "putnum", .int c, .int i2]) := hb5
        walk_at "go"
        intro p6 H6 n6 k6 h6
        have hb6 := k6.tup hb5
        have hd6 := k6.obj0 hd5
        walk_at "go"
        intro H7 k7 h7
        have hb7 := k7.tup hb6
        walk_at "go"
        have hta : TA (fun x => .int ((g x : Nat) : Int)) H7 (.ref p6) (.num i2) := ⟨p6, rfl, k7.tup h6⟩
        have hlk := length_putK kvs (.inl ((c : Nat) : Int) : L2.Key) (.ref p6)
        exact ⟨⟨bs.length - (i + 1), by omega, i + 1, S1, _, _, by omega, rfl, h7, by omega, by rw [es1]; exact CellsAt.put ((e35.kp k6).kp k7) hta, hrun1, ((e4.trans (k5.any _)).trans (k6.any _)).trans k7, rfl⟩⟩
      | build c x m2 fr =>
        obtain ⟨ks2, hk1, hk2, hk3, es1⟩ := hstep
        obtain ⟨us, hu1, hu2, hu3⟩ := e35.kids ks2 fr hk3
        have hb5 : H5 b = some (.tup [.str "build", .int c, .str x, .int m2, .int fr]) := hb5
        have hfr := hf c x m2 fr rfl
        walk_at "go"
        refine ⟨(hu1.trans hk1 : us.length = m2), by omega, by omega, fun j u e => hu2 j u e, fun p6 H6 h6 k6 => ?_⟩
        have hb6 := k6.tup hb5
        walk_at "go"
        intro p7 H7 n7 k7 h7
        have hb7 := k7.tup hb6
        have hd7 := k7.obj0 (k6.obj0 hd5)
        walk_at "go"
        intro H8 k8 h8
        have hb8 := k8.tup hb7
        walk_at "go"
        have hta : TA (fun x => .int ((g x : Nat) : Int)) H8 (.ref p7) (.app x ks2) := ⟨p7, p6, us, rfl, k8.tup h7, k8.tup (k7.tup h6), ((hu3.kp k6).kp k7).kp k8⟩
        have hlk := length_putK kvs (.inl ((c : Nat) : Int) : L2.Key) (.ref p7)
        exact ⟨⟨bs.length - (i + 1), by omega, i + 1, S1, _, _, by omega, rfl, h8, by omega, by rw [es1]; exact CellsAt.put (((e35.kp k6).kp k7).kp k8) hta, hrun1, (((e4.trans (k5.any _)).trans (k6.any _)).trans (k7.any _)).trans k8, rfl⟩⟩
      | _ => exact False.elim hstep
    · have hie : i = bs.length := by omega
      subst hie
      rw [List.drop_length] at e5
      have e5 : SF = S := e5
      subst e5
      have hir : (pre ++ rg ++ post)[pre.length + bs.length]? = some last := by
        rw [List.append_assoc, List.getElem?_append_right (by omega), Nat.add_sub_cancel_left, erg, List.append_assoc, List.getElem?_append_right (Nat.le_refl _), Nat.sub_self]; rfl
      obtain ⟨v, hv, b, rfl, hb⟩ := hrs4.get hir
      obtain ⟨more, em⟩ := last.ks_head
      have hb0 : H4 b = some (.tup (.str last.word :: more.map kV)) := by rw [hb, em]; rfl
      refine ⟨_, rfl, _, rfl, a, xs, rfl, .inl ha4, _, _, rfl, rfl, _, rfl, itT hlt2 ?_⟩
      refine ⟨_, rfl, _, rfl, a, xs, pre.length + bs.length, _, rfl, rfl, ha4, hv, b, _, _, rfl, hb0, rfl, Nat.le_of_ble_eq_true rfl, fun p H5 n5 k5 h5 => ⟨_, p, rfl, rfl, h5, _, rfl, itF (end_word hend) ?_⟩⟩
      have ha5 := k5.obj0 ha4
      have hd5 := k5.obj0 e1
      have hdd5 := k5.obj0 hd4
      have hb5 := k5.tup hb
      have e35 := e3.kp k5
      have k05 := k04.trans k5
      have hat : (((pre ++ rg).length : Nat) : Int) = ((pre.length + bs.length : Nat) : Int) + 1 := by rw [List.length_append, hrl]; omega
      rw [hat] at h
      obtain ⟨us, hu1, hu2, hu3⟩ := e35.kids ks 0 hcells
      have hne : decide (V.int ((pre.length + bs.length : Nat) : Int) = V.int ((xs.length : Nat) : Int)) = false := by
        rw [decide_eq_false_iff_not]; intro z; injection z with z; rw [hxl, hll] at z; omega
      refine ⟨_, rfl, _, rfl, a, xs, rfl, .inl ha5, rfl, _, rfl, itF hne ?_⟩
      refine ⟨_, rfl, _, rfl, a, xs, pre.length + bs.length, _, rfl, rfl, ha5, hv, ?_⟩
      clear hb0 em hb hir hne
      cases hend with
      | call =>
        rename_i s
        have hb5 : H5 b = some (.tup [.str "call", .str s, .int (ks.length : Nat)]) := hb5
        walk_at "go"
        refine ⟨dgS hdd5 (by decide +kernel : valV ddD (.inr "call" : L2.Key) = none), ?_⟩
        walk_at "go"
        intro p6 H6 n6 k6 h6
        have hb6 := k6.tup hb5
        have hd6 := k6.obj0 hd5
        walk_at "go"
        intro p7 H7 h7 k7
        walk_at "go"
        intro p8 H8 n8 k8 h8
        have hb8 := k8.tup (k7.tup hb6)
        walk_at "go"
        intro p9 H9 n9 k9 h9
        exact h p9 (.ref p8) H9 h9 ⟨p8, p7, us, rfl, k9.tup h8, k9.tup (k8.tup h7), (((hu3.kp k6).kp k7).kp k8).kp k9⟩ ((((k05.trans k6).trans k7).trans k8).trans k9)
      | jump =>
        rename_i s
        have hb5 : H5 b = some (.tup [.str "jump", .str s, .int (ks.length : Nat)]) := hb5
        walk_at "go"
        refine ⟨dgS hdd5 (by decide +kernel : valV ddD (.inr "jump" : L2.Key) = none), ?_⟩
        walk_at "go"
        intro p6 H6 n6 k6 h6
        have hb6 := k6.tup hb5
        have hd6 := k6.obj0 hd5
        walk_at "go"
        intro p7 H7 h7 k7
        walk_at "go"
        intro p8 H8 n8 k8 h8
        have hb8 := k8.tup (k7.tup hb6)
        walk_at "go"
        intro p9 H9 n9 k9 h9
        exact h p9 (.ref p8) H9 h9 ⟨p8, p7, us, rfl, k9.tup h8, k9.tup (k8.tup h7), (((hu3.kp k6).kp k7).kp k8).kp k9⟩ ((((k05.trans k6).trans k7).trans k8).trans k9)
      | nt =>
        rename_i s
        have hb5 : H5 b = some (.tup [.str "not", .str s, .int (ks.length : Nat)]) := hb5
        walk_at "go"
        refine ⟨dgS hdd5 (by decide +kernel : valV ddD (.inr "not" : L2.Key) = none), ?_⟩
        walk_at "go"
        intro p6 H6 n6 k6 h6
        have hb6 := k6.tup hb5
        have hd6 := k6.obj0 hd5
        walk_at "go"
        intro p7 H7 h7 k7
        walk_at "go"
        intro p8 H8 n8 k8 h8
        have hb8 := k8.tup (k7.tup hb6)
        walk_at "go"
        intro pa Ha na ka ha'
        walk_at "go"
        intro pb Hb nb kb hb'
        walk_at "go"
        intro p9 H9 n9 k9 h9
        have hin : TA (fun x => .int ((g x : Nat) : Int)) H8 (.ref p8) (.app s ks) := ⟨p8, p7, us, rfl, h8, k8.tup h7, ((hu3.kp k6).kp k7).kp k8⟩
        exact h p9 (.ref pb) H9 h9 ⟨pb, pa, [.ref p8], rfl, k9.tup hb', k9.tup (kb.tup ha'), ((hin.kp ka).kp kb).kp k9, trivial⟩ ((((((k05.trans k6).trans k7).trans k8).trans ka).trans kb).trans k9)
      | deed q hq =>
        cases q with
        | keep =>
          have hb5 : H5 b = some (.tup [.str "keep"]) := hb5
          have eks : ks = [] := List.eq_nil_of_length_eq_zero hq
          subst eks
          walk_at "go"
          intro p6 H6 n6 k6 h6
          walk_at "go"
          intro p7 H7 n7 k7 h7
          walk_at "go"
          intro p9 H9 n9 k9 h9
          exact h p9 (.ref p7) H9 h9 ⟨p7, p6, [], rfl, k9.tup h7, k9.tup (k7.tup h6), trivial⟩ (((k05.trans k6).trans k7).trans k9)
        | eq =>
          have hb5 : H5 b = some (.tup [.str "equal"]) := hb5
          have hq : ks.length = 2 := hq
          have hg : valV ddD (.inr "equal" : L2.Key) = some (.str "=") := by decide +kernel
          walk_at "go"
          refine ⟨dgS hdd5 hg, ?_⟩
          walk_at "go"
          refine ⟨dgS hdd5 hg, ?_⟩
          walk_at "go"
          refine ⟨hu1.trans hq, Nat.le_of_ble_eq_true rfl, Nat.le_of_ble_eq_true rfl, fun j u e => hu2 j u e, fun p7 H7 h7 k7 => ?_⟩
          walk_at "go"
          intro p8 H8 n8 k8 h8
          walk_at "go"
          intro p9 H9 n9 k9 h9
          exact h p9 (.ref p8) H9 h9 ⟨p8, p7, us, rfl, k9.tup h8, k9.tup (k8.tup h7), ((hu3.kp k7).kp k8).kp k9⟩ (((k05.trans k7).trans k8).trans k9)
        | asg =>
          have hb5 : H5 b = some (.tup [.str "reckon"]) := hb5
          have hq : ks.length = 2 := hq
          have hg : valV ddD (.inr "reckon" : L2.Key) = some (.str ":=") := by decide +kernel
          walk_at "go"
          refine ⟨dgS hdd5 hg, ?_⟩
          walk_at "go"
          refine ⟨dgS hdd5 hg, ?_⟩
          walk_at "go"
          refine ⟨hu1.trans hq, Nat.le_of_ble_eq_true rfl, Nat.le_of_ble_eq_true rfl, fun j u e => hu2 j u e, fun p7 H7 h7 k7 => ?_⟩
          walk_at "go"
          intro p8 H8 n8 k8 h8
          walk_at "go"
          intro p9 H9 n9 k9 h9
          exact h p9 (.ref p8) H9 h9 ⟨p8, p7, us, rfl, k9.tup h8, k9.tup (k8.tup h7), ((hu3.kp k7).kp k8).kp k9⟩ (((k05.trans k7).trans k8).trans k9)
        | lt =>
          have hb5 : H5 b = some (.tup [.str "less"]) := hb5
          have hq : ks.length = 2 := hq
          have hg : valV ddD (.inr "less" : L2.Key) = some (.str "<") := by decide +kernel
          walk_at "go"
          refine ⟨dgS hdd5 hg, ?_⟩
          walk_at "go"
          refine ⟨dgS hdd5 hg, ?_⟩
          walk_at "go"
          refine ⟨hu1.trans hq, Nat.le_of_ble_eq_true rfl, Nat.le_of_ble_eq_true rfl, fun j u e => hu2 j u e, fun p7 H7 h7 k7 => ?_⟩
          walk_at "go"
          intro p8 H8 n8 k8 h8
          walk_at "go"
          intro p9 H9 n9 k9 h9
          exact h p9 (.ref p8) H9 h9 ⟨p8, p7, us, rfl, k9.tup h8, k9.tup (k8.tup h7), ((hu3.kp k7).kp k8).kp k9⟩ (((k05.trans k7).trans k8).trans k9)
        | le =>
          have hb5 : H5 b = some (.tup [.str "atmost"]) := hb5
          have hq : ks.length = 2 := hq
          have hg : valV ddD (.inr "atmost" : L2.Key) = some (.str "<=") := by decide +kernel
          walk_at "go"
          refine ⟨dgS hdd5 hg, ?_⟩
          walk_at "go"
          refine ⟨dgS hdd5 hg, ?_⟩
          walk_at "go"
          refine ⟨hu1.trans hq, Nat.le_of_ble_eq_true rfl, Nat.le_of_ble_eq_true rfl, fun j u e => hu2 j u e, fun p7 H7 h7 k7 => ?_⟩
          walk_at "go"
          intro p8 H8 n8 k8 h8
          walk_at "go"
          intro p9 H9 n9 k9 h9
          exact h p9 (.ref p8) H9 h9 ⟨p8, p7, us, rfl, k9.tup h8, k9.tup (k8.tup h7), ((hu3.kp k7).kp k8).kp k9⟩ (((k05.trans k7).trans k8).trans k9)
end
end GT
/-! GuB: the law reads: rule_right. -/
namespace GT
open PySem L2 GL PyProof.Rows RT
/-! tactics: a fact of the heap by what was kept; the reading's small steps -/
local macro_rules | `(tactic| walk_at "hp") => `(tactic| first | assumption | (refine Kp.tup (by assumption) ?_; walk_at "hp") | (refine Kp.obj0 (by assumption) ?_; walk_at "hp") | (refine Kp.obj1 (by assumption) ?_ (by first | assumption | (apply Ne.symm; assumption)); walk_at "hp"))
local macro_rules | `(tactic| walk_at "kp") => `(tactic| first | assumption | exact Kp.refl _ _ | (refine Kp.trans ?_ (Kp.wk (by assumption) (by simp)); walk_at "kp"))
local macro_rules | `(tactic| walk_at "nn") => `(tactic| first | assumption | (refine Kp.fr (by assumption) _ ?_; walk_at "nn"))
local macro_rules | `(tactic| walk_at "go") => `(tactic| repeat (first | (refine And.intro ?_ ?_; (first | rfl | walk_at "hp" | decide | (refine Or.inl ?_; walk_at "hp") | (refine Or.inr ?_; walk_at "hp") | (refine SqL.of ?_; walk_at "hp") | exact Nat.le_of_ble_eq_true rfl | exact kvS _ | exact kvI _ | exact cmulL rfl | exact cmulR rfl | exact cpw rfl | exact cdv rfl | exact Ty.int _ | exact Ty.str _ | exact Ty.bl _ | exact Ty.lst (by walk_at "hp") | exact Ty.tup (by walk_at "hp") | walk_at "kp" | omega | (dsimp only; first | decide | omega))) | apply Exists.intro))

def kD : L2.Key → PyData
  | .inl i => .int i
  | .inr s => .str s
def rowD (r : Row) : PyData := .tuple (r.ks.map kD)
theorem dp_keys {K : PySem.W.Frag} {H : Hp} : ∀ l : List L2.Key, DpAll K H (l.map kV) (l.map kD)
  | [] => .nil
  | .inl i :: r => .cons (.int i) (dp_keys r)
  | .inr s :: r => .cons (.str s) (dp_keys r)
theorem RowAt.dp {K : PySem.W.Frag} {H : Hp} {v : V} {r : Row} (h : RowAt H v r) : Dp K H v (rowD r) := by
  obtain ⟨a, rfl, h⟩ := h
  exact .tup (SqT.of h) (dp_keys _)
theorem RowsAt.dp {K : PySem.W.Frag} {H : Hp} : ∀ {vs : List V} {rs : List Row}, RowsAt H vs rs → DpAll K H vs (rs.map rowD)
  | [], [], _ => .nil
  | v :: vs, r :: rs, ⟨h1, h2⟩ => .cons h1.dp (RowsAt.dp h2)
  | [], _ :: _, h => False.elim h
  | _ :: _, [], h => False.elim h
theorem RowsAt.split {H : Hp} : ∀ {ra rb : List Row} {vs : List V}, RowsAt H vs (ra ++ rb) → ∃ v1 v2, vs = v1 ++ v2 ∧ RowsAt H v1 ra ∧ RowsAt H v2 rb
  | [], rb, vs, h => ⟨[], vs, rfl, trivial, h⟩
  | t :: ts, us, v :: vs, ⟨h1, h2⟩ => by
    obtain ⟨v1, v2, e, a, b⟩ := RowsAt.split h2
    exact ⟨v :: v1, v2, by rw [e]; rfl, ⟨h1, a⟩, b⟩
  | t :: ts, us, [], h => False.elim h
theorem cutV_mid (xa xb xc : List V) {i j : Int} (hi : i = (xa.length : Nat)) (hj : j = ((xa.length + xb.length : Nat) : Int)) : cutV (xa ++ (xb ++ xc)) (some i) (some j) = xb := by
  subst hi hj
  unfold cutV
  rw [HT.sIx_nat, HT.sIx_nat]
  have e1 : min xa.length (xa ++ (xb ++ xc)).length = xa.length := by rw [List.length_append]; omega
  have e2 : min (xa.length + xb.length) (xa ++ (xb ++ xc)).length = xa.length + xb.length := by rw [List.length_append, List.length_append]; omega
  rw [e1, e2, Nat.add_sub_cancel_left, List.drop_left, List.take_left]
theorem cutV_end (xa xb : List V) {i : Int} (hi : i = (xa.length : Nat)) : cutV (xa ++ xb) (some i) none = xb := by
  subst hi
  unfold cutV
  rw [HT.sIx_nat, HT.sIx_none]
  have e1 : min xa.length (xa ++ xb).length = xa.length := by rw [List.length_append]; omega
  rw [e1, List.drop_left, List.length_append, Nat.add_sub_cancel_left, List.take_length]
theorem cutV_ini (xa xb : List V) {i : Int} (hi : i = (xa.length : Nat)) : cutV (xa ++ xb) none (some i) = xa := by
  subst hi
  unfold cutV
  rw [HT.sIx_nat, HT.sIx_none]
  have e1 : min xa.length (xa ++ xb).length = xa.length := by rw [List.length_append]; omega
  rw [e1, List.drop_zero, Nat.sub_zero, List.take_left]
theorem lay_news : ∀ (m i : Nat), PyData.canLayAll0 (((List.range' i m).map Row.new).map rowD) = true ∧ PyData.depthAll (((List.range' i m).map Row.new).map rowD) ≤ 1
  | 0, i => ⟨rfl, by simp [PyData.depthAll]⟩
  | m + 1, i => by
    obtain ⟨h1, h2⟩ := lay_news m (i + 1)
    rw [List.range'_succ, List.map_cons, List.map_cons]
    refine ⟨?_, ?_⟩
    · show (PyData.canLay0 (rowD (.new i)) && PyData.canLayAll0 _) = true
      rw [h1, Bool.and_true]
      show (PyData.canLay0 (.str "new") && (PyData.canLay0 (.int i) && true)) = true
      have e : PyData.canLay0 (.str "new") = true := by decide +kernel
      rw [e]; rfl
    · simp only [PyData.depthAll, rowD, Row.ks, List.map_cons, List.map_nil, kD, PyData.depth] at h2 ⊢
      omega
theorem eqv_same {d : PyData} (h : SeqAt.shaped d = true) : PyData.eqv d d = true := SeqAt.eqv_refl d (SeqAt.canLay_of_shaped h)
theorem shaped_list' {xs : List PyData} (h : PyData.canLayAll0 xs = true) (hd : PyData.depthAll xs ≤ 60) : SeqAt.shaped (.list xs) = true := shaped_list h hd
theorem shaped_tuple {xs : List PyData} (h : PyData.canLayAll0 xs = true) (hd : PyData.depthAll xs ≤ 60) : SeqAt.shaped (.tuple xs) = true := by
  show (PyData.canLay0 (.tuple xs) && decide ((PyData.tuple xs).depth ≤ 64)) = true
  have e1 : PyData.canLay0 (.tuple xs) = true := h
  have e2 : (PyData.tuple xs).depth ≤ 64 := by simp only [PyData.depth]; omega
  rw [e1, decide_eq_true e2]; rfl
theorem shaped_term (f : Str → Nat) {t : GT.T} (ok : t.ok) (hs : t.size ≤ 30) : SeqAt.shaped (t.toW fun x => .int (f x)) = true := by
  show (PyData.canLay0 _ && decide (_ ≤ 64)) = true
  have e1 := T.lay (fun x => PyData.int (f x)) (fun x _ => rfl) t ok
  have e2 := T.depth_le (fun x => PyData.int (f x)) (fun x => rfl) t
  rw [e1, decide_eq_true (by omega)]; rfl
theorem shaped_terms (f : Str → Nat) {ts : List GT.T} (ok : oks ts) (hs : sizes ts ≤ 30) : SeqAt.shaped (.tuple (toWs (fun x => .int (f x)) ts)) = true := by
  have e1 := lays (fun x => PyData.int (f x)) (fun x _ => rfl) ts ok
  have e2 := depths_le (fun x => PyData.int (f x)) (fun x => rfl) ts
  exact shaped_tuple e1 (by omega)
theorem shaped_back : SeqAt.shaped (.list [rowD .back]) = true := by decide +kernel
theorem shaped_frame : SeqAt.shaped (.list [rowD .frame]) = true := by decide +kernel
/-- no jump -/
def NJ (rs : List Row) : Prop := ∀ r ∈ rs, r.word ≠ ("jump" : Str)
theorem nj_heads {rs : List Row} (h : ∀ r ∈ rs, r.isHead = true) : NJ rs := fun r hr e => by
  have := head_word (h r hr)
  rw [e] at this; revert this; decide +kernel
theorem nj_brings {rs : List Row} (h : ∀ r ∈ rs, r.isBring = true) : NJ rs := fun r hr e => by
  have := bring_word (h r hr)
  rw [e] at this; revert this; decide +kernel
theorem NJ.append {a b : List Row} (h1 : NJ a) (h2 : NJ b) : NJ (a ++ b) := fun r hr => (List.mem_append.mp hr).elim (h1 r) (h2 r)
theorem nj_one {r : Row} (h : r.word ≠ ("jump" : Str)) : NJ [r] := fun q hq => by rw [List.mem_singleton] at hq; rw [hq]; exact h
theorem GR.nj {f : Str → Nat} {t : GT.T} {rs : List Row} (h : GR f false t rs) : NJ rs := by
  cases h with
  | named h => exact NJ.append (nj_brings (brings_brings f _ _ _)) (nj_one (by show ("call" : Str) ≠ "jump"; decide +kernel))
  | nt h => exact NJ.append (nj_brings (brings_brings f _ _ _)) (nj_one (by show ("not" : Str) ≠ "jump"; decide +kernel))
  | deed q h => exact NJ.append (nj_brings (brings_brings f _ _ _)) (nj_one (by cases q <;> decide +kernel))
theorem GRs.nj {f : Str → Nat} : ∀ {ts : List GT.T} {rs : List Row}, GRs f ts rs → NJ rs
  | [], rs, h => by
    have e : rs = [] := h
    subst e; intro r hr; cases hr
  | t :: ts, rs, ⟨r1, r2, e, h1, h2⟩ => by
    subst e
    exact h1.nj.append (GRs.nj h2)
theorem Tail.back {rs tl : List Row} (h : Tail rs tl) (hn : NJ rs) : tl = [.back] := by
  rcases h with ⟨_, e⟩ | ⟨r0, r, e, h | h⟩
  · exact e
  · exact absurd h.1 (hn r (by rw [e]; simp))
  · exact h.2
theorem Tail.none {r0 tl : List Row} {r : Row} (h : Tail (r0 ++ [r]) tl) (hr : r.word = ("jump" : Str)) : tl = [] := by
  rcases h with ⟨e, _⟩ | ⟨q0, q, e, h | h⟩
  · simp at e
  · exact h.2
  · have := (List.append_inj' e rfl).2
    injection this with this
    rw [← this] at h
    exact absurd hr h.1
theorem Tail.back1 {r0 tl : List Row} {r : Row} (h : Tail (r0 ++ [r]) tl) (hr : r.word ≠ ("jump" : Str)) : tl = [.back] := by
  rcases h with ⟨e, _⟩ | ⟨q0, q, e, h | h⟩
  · simp at e
  · have := (List.append_inj' e rfl).2
    injection this with this
    rw [← this] at h
    exact absurd h.1 hr
  · exact h.2
/-- a rule's rows, taken apart -/
theorem RuleRows.parts {s : Str} {ks gs : List GT.T} {rs : List Row} (h : RuleRows (.app s ks, gs) rs) : ∃ rH rest, rs = rH ++ rest ∧ Takes (sl (names (occs ks ++ occs gs))) 0 ks ks.length rH ∧ (∀ r, rest[0]? = some r → r.isHead = false) ∧
    ((gs = [] ∧ rest = [.back]) ∨ ∃ gs0 g rG rg tl, gs = gs0 ++ [g] ∧ GRs (sl (names (occs ks ++ occs gs))) gs0 rG ∧ GR (sl (names (occs ks ++ occs gs))) true g rg ∧
      rest = [.frame] ++ ((List.range' (names (occs ks)).length ((names (occs ks ++ occs gs)).length - (names (occs ks)).length)).map Row.new ++ (rG ++ (rg ++ tl))) ∧
      Tail (rH ++ .frame :: (List.range' (names (occs ks)).length ((names (occs ks ++ occs gs)).length - (names (occs ks)).length)).map Row.new ++ rG ++ rg) tl) := by
  cases h with
  | fact ht tl =>
    have e := tl.back (nj_heads ht.heads)
    subst e
    refine ⟨_, _, rfl, by simpa [occs] using ht, fun r hr => ?_, .inl ⟨rfl, rfl⟩⟩
    cases hr; rfl
  | rule e ht hg hl tl =>
    subst e
    refine ⟨_, _, by simp only [List.append_assoc, List.cons_append, List.nil_append], ht, fun r hr => ?_, .inr ⟨_, _, _, _, _, rfl, hg, hl, rfl, tl⟩⟩
    cases hr; rfl
theorem Tail.len {rs tl : List Row} (h : Tail rs tl) : tl.length ≤ 1 := by
  rcases h with ⟨_, e⟩ | ⟨_, _, _, h | h⟩
  · rw [e]; simp
  · rw [h.2]; simp
  · rw [h.2]; simp
/-- goals' rows, the last one a jump or not -/
def GLs (f : Str → Nat) : List GT.T → List Row → Prop
  | [], rs => rs = []
  | g :: gs, rs => ∃ j r1 r2, rs = r1 ++ r2 ∧ GR f j g r1 ∧ GLs f gs r2
theorem GLs.of {f : Str → Nat} {g : GT.T} {rg : List Row} (hl : GR f true g rg) : ∀ {gs : List GT.T} {rG : List Row}, GRs f gs rG → GLs f (gs ++ [g]) (rG ++ rg)
  | [], rG, h => by
    have e : rG = [] := h
    subst e
    exact ⟨true, rg, [], by simp, hl, rfl⟩
  | a :: gs, rG, ⟨r1, r2, e, h1, h2⟩ => by
    subst e
    exact ⟨false, r1, r2 ++ rg, by simp, h1, GLs.of hl h2⟩
section
variable {P : Program} {w : World} {K : PySem.W.Frag} {mg : Str → Option Value} {base : Heap} {C d : Addr} {es : Array DictEntry} {n : Nat} {k : Nat}
abbrev s_rule_right : Stmt := (topS 35)
abbrev N_rule_right : List Str := ["_law_found", "_law_number", "_law_head_here", "_law_goals", "_law_slots_here", "_law_rows", "_law_seen", "_law_at", "_law_many", "_law_goal", "_law_due", "_law_row"]
theorem sc_rule_right : FnScope N_rule_right ["_law_found", "_law_number", "_law_head_here", "_law_goals"] (defScope s_rule_right) := ⟨rfl, rfl, rfl, by decide +kernel, rfl, by decide +kernel, by decide +kernel⟩

def spRuleRight : Sp := fun vs H Q _ => ∃ (v hv : V) (i : Int) (bg : Addr) (gvs : List V) (r : Rule), vs = [v, .int i, hv, .ref bg] ∧ CodeAt H [] v i r ∧ TA .str H hv r.1 ∧ H bg = some (.tup gvs) ∧ TAs .str H gvs r.2 ∧ ROk r ∧ ∀ H', Kp [] H H' → Q (.bl true) H'
theorem ok_rule_right (tx : Txt K w mg C d es n) (d_whole : Def P w K mg base "_law_whole" k ["_law_found"] spWhole) (d_slots : Def P w K mg base "_law_slots" k ["_law_terms"] spSlots) (d_rows_are : Def P w K mg base "_law_rows_are" k ["_law_rows"] spRowsAre) (d_head : Def P w K mg base "_law_head" k ["_law_rows", "_law_many"] spHd) (d_by_slots : Def P w K mg base "_law_by_slots" k ["_law_term", "_law_slots_here"] (spBySlots 30)) (d_goal_read : Def P w K mg base "_law_goal_read" k ["_law_rows", "_law_at"] spGoalRead) (d_news : Def P w K mg base "_law_news" k ["_law_slots_here", "_law_many"] spNews) (D : DefAt K mg "_law_rule_right" s_rule_right ["_law_found", "_law_number", "_law_head_here", "_law_goals"]) : Def P w K mg base "_law_rule_right" (k + 1) ["_law_found", "_law_number", "_law_head_here", "_law_goals"] spRuleRight := by
  refine D.ok sc_rule_right (fun vs H Q E h => ?_) (fun f cdv A outer s H vs Q E hr h => ?_)
  · obtain ⟨v, hv, i, bg, gvs, r, rfl, _⟩ := h; rfl
  · obtain ⟨v, hv, i, bg, gvs, ⟨hd, gs⟩, rfl, hcode, hh, hbg, hg, hok, h⟩ := h
    have hu := hu_of hr
    obtain ⟨p, aro, xs, rs, rfl, hp, hro, hrv, hrr, _⟩ := hcode
    obtain ⟨⟨s0, ks, hs, hsw⟩, hdok, hdsz, hgl, hgk, hgo, hgz⟩ := hok
    simp only at hs hdok hdsz hgl hgk hgo hgz hh hg hp
    subst hs
    have hgl2 := hg.len
    have hgsz : ∀ l : List GT.T, (∀ g ∈ l, g.size ≤ 24) → sizes l ≤ 24 * l.length := by
      intro l
      induction l with
      | nil => intro _; simp [sizes]
      | cons g l ih =>
        intro hz
        have e1 := hz g List.mem_cons_self
        have e2 := ih fun z hm => hz z (List.mem_cons_of_mem _ hm)
        simp only [sizes, List.length_cons]; omega
    have hgs := hgsz gs hgz
    have hdsz' := hdsz
    simp only [GT.T.size] at hdsz
    have hcl : [hv].length + gvs.length ≤ 100000 := by simp; omega
    obtain ⟨ns, hns⟩ : ∃ ns, ns = names (occs ks ++ occs gs) := ⟨_, rfl⟩
    have hns2 : names (occs (.app s0 ks :: gs)) = ns := by rw [hns]; rfl
    rw [hns2] at hp
    have hnl : ns.length ≤ 200 := by
      have e1 := names_len_le (occs ks ++ occs gs)
      have e2 := occs_le_sizes ks
      have e3 := occs_le_sizes gs
      rw [hns]; rw [List.length_append] at e1; omega
    obtain ⟨rH, rest, ers, htk, hrest, hcase⟩ := hrr.parts
    rw [← hns] at htk hcase
    have hrH := htk.len
    have hrl : rs.length ≤ 900 := by
      rw [ers, List.length_append]
      rcases hcase with ⟨_, e⟩ | ⟨gs0, g, rG, rg, tl, e, h1, h2, h3, h4⟩
      · rw [e]; simp; omega
      · have := h1.len
        have := h2.len
        have := h4.len
        rw [e, sizes_append] at hgs
        simp only [sizes] at hgs
        rw [e] at hgl
        rw [h3]
        simp only [List.length_append, List.length_cons, List.length_nil, List.length_map, List.length_range']
        omega
    have hF : (names (occs ks)).length ≤ ns.length := by
      obtain ⟨more, e⟩ := names_app (occs ks) (occs gs)
      rw [hns, e, List.length_append]; omega
    refine ⟨_, (pss_cons (ps_set (i := 4) sc_rule_right.nd rfl (by first | exact .inl rfl | exact .inr rfl) (pe_cl d_slots (hr.mono (by omega)) (pa_cons (pe_cat (pe_lstN (pa_cons (pv 2) pa_nil)) (pe_list (by rfl) tx.list_ (pv 3))) pa_nil)))
      (pss_cons (ps_if (PW.pt (pw_or (pt_not (pt_val (pe_isi (by rfl) tx.isinstance_ (pv 0) (pe_bltn (v := .ty "tuple") (by rfl) tx.tuple_ boot_tuple rfl)))) (pw_or (pt_cmpR op_ne (pe_len (by rfl) tx.len_ (pv 0)) pe_int (nomark _)) (pw_or (pt_not (pt_val (pe_cl d_whole (hr.mono (by omega)) (pa_cons (pe_tc (n := 0) (pv 0)) pa_nil)))) (pw_or1 (pt_not (pt_val (pe_cl d_whole (hr.mono (by omega)) (pa_cons (pe_tc (n := 1) (pv 0)) pa_nil))))))))) (pss_one (ps_ret pe_bl)) pss_nil)
      (pss_cons (ps_if (PW.pt (pw_or (pt_cmpR op_ne (pe_tc (n := 0) (pv 0)) (pv 1) (nomark _)) (pw_or (pt_cmpR op_ne (pe_tc (n := 1) (pv 0)) (pe_lenD (by rfl) tx.len_ (pv 4)) (nomark _)) (pw_or1 (pt_not (pt_val (pe_cl d_rows_are (hr.mono (by omega)) (pa_cons (pe_tc (n := 2) (pv 0)) pa_nil)))))))) (pss_one (ps_ret pe_bl)) pss_nil)
      (pss_cons (ps_set (i := 5) sc_rule_right.nd rfl (by first | exact .inl rfl | exact .inr rfl) (pe_tc (n := 2) (pv 0)))
      (pss_cons (ps_set (i := 6) sc_rule_right.nd rfl (by first | exact .inl rfl | exact .inr rfl) (pe_cl d_head (hr.mono (by omega)) (pa_cons (pv 5) (pa_cons (pe_len (by rfl) tx.len_ (pe_tc (n := 2) (pv 2))) pa_nil))))
      (pss_cons (ps_if (PW.pt (pw_or (pt_cmpR op_isN (pv 6) pe_non (nomark _)) (pw_or1 (pt_cmpR (op_neD hr.units) (pe_tc (n := 0) (pv 6)) (pe_tc (n := 2) (pe_cl d_by_slots (hr.mono (by omega)) (pa_cons (pv 2) (pa_cons (pv 4) pa_nil)))) (nomark _))))) (pss_one (ps_ret pe_bl)) pss_nil)
      (pss_cons (ps_set (i := 7) sc_rule_right.nd rfl (by first | exact .inl rfl | exact .inr rfl) (pe_tc (n := 1) (pv 6)))
      (pss_cons (ps_if (pt_cmpR op_eq (pe_len (by rfl) tx.len_ (pv 3)) pe_int (nomark _)) (pss_one (ps_ret (pe_cmpR (op_eqD hr.units) (pe_slL (pv 5) (po_some (pv 7)) po_none) (pe_lstN (pa_cons (pe_tupN (pa_cons pe_str pa_nil)) pa_nil)) (nomark _)))) pss_nil)
      (pss_cons (ps_set (i := 8) sc_rule_right.nd rfl (by first | exact .inl rfl | exact .inr rfl) (pe_op op_sub (pe_lenD (by rfl) tx.len_ (pv 4)) (pe_lenD (by rfl) tx.len_ (pe_cl d_slots (hr.mono (by omega)) (pa_cons (pe_lstN (pa_cons (pv 2) pa_nil)) pa_nil)))))
      (pss_cons (ps_if (PW.pt (pw_or (pt_cmpR (op_neD hr.units) (pe_slL (pv 5) (po_some (pv 7)) (po_some (pe_op op_add (pv 7) pe_int))) (pe_lstN (pa_cons (pe_tupN (pa_cons pe_str pa_nil)) pa_nil)) (nomark _)) (pw_or1 (pt_cmpR (op_neD hr.units) (pe_callB cr_sortedW (by rfl) tx.sorted_ boot_sorted (pa_cons (pe_slL (pv 5) (po_some (pe_op op_add (pv 7) pe_int)) (po_some (pe_op op_add (pe_op op_add (pv 7) pe_int) (pv 8)))) pa_nil)) (pe_cl d_news (hr.mono (by omega)) (pa_cons (pe_lenD (by rfl) tx.len_ (pv 4)) (pa_cons (pv 8) pa_nil))) (nomark _))))) (pss_one (ps_ret pe_bl)) pss_nil)
      (pss_cons (ps_set (i := 7) sc_rule_right.nd rfl (by first | exact .inl rfl | exact .inr rfl) (pe_op op_add (pe_op op_add (pv 7) pe_int) (pv 8)))
      (pss_cons (ps_forT PassesOwn.never rfl (pv 3) (pg_name (i := 9) sc_rule_right.nd rfl (by first | exact .inl rfl | exact .inr rfl)) (pss_cons (ps_asg (pe_cl d_goal_read (hr.mono (by omega)) (pa_cons (pv 5) (pa_cons (pv 7) pa_nil))) (pg_tup rfl (pgs_cons (pg_name (i := 10) sc_rule_right.nd rfl (by first | exact .inl rfl | exact .inr rfl)) (pgs_cons (pg_name (i := 7) sc_rule_right.nd rfl (by first | exact .inl rfl | exact .inr rfl)) pgs_nil))))
      (pss_one (ps_if (pt_cmpR (op_neD hr.units) (pv 10) (pe_cl d_by_slots (hr.mono (by omega)) (pa_cons (pv 9) (pa_cons (pv 4) pa_nil))) (nomark _)) (pss_one (ps_ret pe_bl)) pss_nil))))
      (pss_cons (ps_if (pt_cmpR (op_inS ["keep", "not", "=", ":=", "<", "<="]) (pe_tc (n := 1) (pe_ixt (pv 3))) (pe_tupN (pa_cons pe_str (pa_cons pe_str (pa_cons pe_str (pa_cons pe_str (pa_cons pe_str (pa_cons pe_str pa_nil))))))) (by rfl)) (pss_one (ps_ret (pe_cmpR (op_eqD hr.units) (pe_slL (pv 5) (po_some (pv 7)) po_none) (pe_lstN (pa_cons (pe_tupN (pa_cons pe_str pa_nil)) pa_nil)) (nomark _)))) pss_nil)
      (pss_one (ps_ret (pe_and (pe_cmpR (op_eqD hr.units) (pe_slL (pv 5) (po_some (pv 7)) po_none) (pe_lstN pa_nil) (nomark _)) (pe_and (pe_cmpR op_eq (pe_tc (n := 0) (pe_il (pv 5) (pe_op op_sub (pv 7) pe_int))) pe_str (nomark _)) (pe_one (pe_cmpR op_isBl (pe_cmpR op_in_seq pe_str (lcL (x1 := "_law_row") (i := 11) rfl sc_rule_right.nd (pe_slL (pv 5) po_none (po_some (pe_op op_sub (pv 7) pe_int))) (blkOk_by (own := [("_law_row", 11)]) (N := N_rule_right) (sc := defScope s_rule_right) (by decide +kernel)) (fun _ _ _ _ _ => pg_name (i := 11) sc_rule_right.nd rfl (Or.inl rfl)) (fun _ _ _ _ _ => (pe_tc (n := 0) (pv 11)))).pe (by rfl)) pe_bl (nomark _)))))))))))))))))))), ?_⟩
    walk_at "go"
    intro p1 H1 n1 k1 h1
    walk_at "go"
    intro p2 H2 n2 k2 h2
    have h12 := k2.obj0 h1
    walk_at "go"
    intro p3 H3 n3 k3 h3
    have k03 : Kp [] H H3 := by walk_at "kp"
    have hts3 : TAs .str H3 (hv :: gvs) (.app s0 ks :: gs) := ⟨hh.kp k03, hg.kp k03⟩
    refine ⟨p3, _, _, rfl, h3, hts3, by simp only [sizes, GT.T.size]; omega, fun ds H4 hds4 n4 k4 => ?_⟩
    rw [hns2] at hds4
    have k04 := k03.trans k4
    have hp4 := k04.tup hp
    have hro4 := k04.obj0 hro
    have hrv4 := hrv.kp k04
    have hh4 := hh.kp k04
    have hbg4 := k04.tup hbg
    have hg4 := hg.kp k04
    clear k1 k2 k3 k4 h1 h2 h3 h12 n1 n2 n3 n4 hts3 k03
    walk_at "go"
    refine itF (by simp) ?_
    walk_at "go"
    refine itF (by simp [slkF_len]) ?_
    walk_at "go"
    intro H5 k5
    obtain ⟨ah, bh, vk, rfl, hah, hbh, hk⟩ := id hh4
    have hkl := hk.len
    have hro5 := k5.obj0 hro4
    have hrv5 := hrv4.kp k5
    have hah5 := k5.tup hah
    have hbh5 := k5.tup hbh
    have hp5 := k5.tup hp4
    have hds5 := k5.obj0 hds4
    have hbg5 := k5.tup hbg4
    have hg5 := hg4.kp k5
    have hh5 := hh4.kp k5
    have hx : ∀ x ∈ (GT.T.app s0 ks).occ, x ∈ ns := fun x hx => by
      rw [hns]; exact (mem_names _ _).mpr (List.mem_append.mpr (.inl hx))
    have gin : ∀ g' ∈ gs, ∀ y ∈ g'.occ, y ∈ ns := by
      intro g' hg' y hy
      rw [hns]
      refine (mem_names _ _).mpr (List.mem_append.mpr (.inr ?_))
      have : ∀ l : List GT.T, g' ∈ l → y ∈ occs l := by
        intro l
        induction l with
        | nil => intro z; cases z
        | cons c l ih =>
          intro z
          rcases List.mem_cons.mp z with rfl | z
          · exact List.mem_append.mpr (.inl hy)
          · exact List.mem_append.mpr (.inr (ih z))
      exact this _ hg'
    have hdsz3 : (GT.T.app s0 ks).size ≤ 30 := by omega
    walk_at "go"
    refine ⟨hdok.2.2, by omega, by omega, hrest, fun p6 b6 us6 H6 h6 hb6 hus6 k6 => ?_⟩
    have hds6 := k6.obj0 hds5
    have hh6 := hh5.kp k6
    have hro6 := k6.obj0 hro5
    have hrv6 := hrv5.kp k6
    have hbg6 := k6.tup hbg5
    have hg6 := hg5.kp k6
    walk_at "go"
    intro u7 H7 hu7 k7
    obtain ⟨a7, b7, vs7, rfl, f1, f2, f3⟩ := hu7
    have h67 := k7.tup h6
    have hb67 := k7.tup hb6
    have hds7 := k7.obj0 hds6
    have hro7 := k7.obj0 hro6
    have hrv7 := hrv6.kp k7
    have hbg7 := k7.tup hbg6
    have hg7 := hg6.kp k7
    have k07 : Kp [] H H7 := ((k04.trans k5).trans k6).trans k7
    have hsh := shaped_terms (sl ns) hdok.2.2 (by omega)
    refine ⟨a7, _, _, rfl, f1, rfl, ?_⟩
    refine ⟨_, _, .tup (SqT.of hb67) (TAs.dp (g := fun x => PyData.int ((sl ns x : Nat) : Int)) (fun x => .int _) _ _ (hus6.kp k7)), .tup (SqT.of f2) (TAs.dp (g := fun x => PyData.int ((sl ns x : Nat) : Int)) (fun x => .int _) _ _ f3), hsh, hsh, _, rfl, itF (by rw [eqv_same hsh]; rfl) ?_⟩
    refine ⟨_, rfl, p6, _, _, rfl, h67, rfl, ?_⟩
    have retBack : ∀ (pre : List Row) (σ : L2.St) (H8 : Hp) (at_ : Int), rs = pre ++ [.back] → at_ = (pre.length : Nat) → Kp [] H7 H8 → σ[5]? = some (some (.ref aro)) → σ[7]? = some (some (.int at_)) →
        (tRet (tOp (rEqD K) (uSlL (tVar 5) (tPart (tVar 7)) tNoPart) (uLst (tCons (uTup (tCons (tC (V.str "back")) tNil)) tNil))) { nx := fun _ H' => Q .non H', rt := Q } σ H8 : Prop) := by
      intro pre σ H8 at_ e1 e2 k8 e3 e4
      have hro8 := k8.obj0 hro7
      have hrv8 := hrv7.kp k8
      rw [e1] at hrv8
      obtain ⟨x1, x2, ex, hx1, hx2⟩ := hrv8.split
      refine ⟨_, e3, _, e4, _, rfl, aro, xs, rfl, hro8, fun p9 H9 n9 k9 h9 => ?_⟩
      rw [ex, cutV_end x1 x2 (by rw [e2, hx1.len])] at h9
      walk_at "go"
      intro pa Ha na ka ha
      walk_at "go"
      intro pb Hb nb kb hb
      have h9b := kb.obj0 (ka.obj0 h9)
      refine ⟨_, _, .lst (SqL.of h9b) (((hx2.kp k9).kp ka).kp kb).dp, .lst (SqL.of hb) (.cons (RowAt.dp (r := .back) ⟨pa, rfl, kb.tup ha⟩) .nil), shaped_back, shaped_back, ?_⟩
      have eb : PyData.eqv (.list ([Row.back].map rowD)) (.list [rowD .back]) = true := eqv_same shaped_back
      rw [eb]
      exact h Hb ((((k07.trans k8).trans k9).trans ka).trans kb)
    rcases hcase with ⟨egs, ere⟩ | ⟨gs0, g, rG, rg, tl, egs, hG, hgl9, ere, htl⟩
    · subst egs
      have ev : gvs = [] := by
        cases gvs with
        | nil => rfl
        | cons v r => simp at hgl2
      subst ev
      refine ⟨_, rfl, bg, [], rfl, .inr hbg7, rfl, _, rfl, itT (by decide) ?_⟩
      exact retBack rH _ H7 _ (by rw [ers, ere]) rfl (Kp.refl _ _) rfl rfl
    · have hgv : decide (V.int ((gvs.length : Nat) : Int) = V.int 0) = false := by
        rw [decide_eq_false_iff_not]; intro z; injection z with z
        rw [hgl2, egs, List.length_append, List.length_singleton] at z; omega
      refine ⟨_, rfl, bg, gvs, rfl, .inr hbg7, rfl, _, rfl, itF hgv ?_⟩
      obtain ⟨F, eF⟩ : ∃ F, F = (names (occs ks)).length := ⟨_, rfl⟩
      rw [← eF] at hF ere htl
      walk_at "go"
      intro p8 H8 n8 k8 h8
      have hts8 : TAs .str H8 [.ref ah] [.app s0 ks] := ⟨(hh6.kp k7).kp k8, trivial⟩
      refine ⟨p8, _, _, rfl, h8, hts8, by simp only [sizes, GT.T.size]; omega, fun d9 H9 hd9 n9 k9 => ?_⟩
      have eoc : occs [GT.T.app s0 ks] = occs ks := by simp [occs, GT.T.occ]
      rw [eoc] at hd9
      have hM : (((slk ns).length : Nat) : Int) - (((slk (names (occs ks))).length : Nat) : Int) = ((ns.length - F : Nat) : Int) := by
        rw [slkF_len, slkF_len, ← eF]; omega
      have hro9 := k9.obj0 (k8.obj0 hro7)
      have hrv9 := (hrv7.kp k8).kp k9
      have hds9 := k9.obj0 (k8.obj0 hds7)
      have hbg9 := k9.tup (k8.tup hbg7)
      have hg9 := (hg7.kp k8).kp k9
      have k79 : Kp [] H7 H9 := k8.trans k9
      rw [ers, ere] at hrv9
      obtain ⟨x0, xr, ex0, hx0, hxr⟩ := hrv9.split
      obtain ⟨x1, xr1, ex1, hx1, hxr1⟩ := hxr.split
      obtain ⟨x2, x3, ex2, hx2, hx3⟩ := hxr1.split
      have l0 := hx0.len
      have l1 := hx1.len
      have l2 := hx2.len
      rw [List.length_singleton] at l1
      rw [List.length_map, List.length_range'] at l2
      walk_at "go"
      intro p10 H10 n10 k10 h10
      have h10 : H10 p10 = some (.lst x1) := h10.trans (congrArg (fun l => some (HO.lst l)) (by rw [ex0, ex1]; exact cutV_mid x0 x1 xr1 (by rw [l0]) (by rw [l0, l1]; omega)))
      walk_at "go"
      intro p11 H11 n11 k11 h11
      walk_at "go"
      intro p12 H12 n12 k12 h12
      have h1012 := k12.obj0 (k11.obj0 h10)
      refine ⟨_, _, .lst (SqL.of h1012) (((hx1.kp k10).kp k11).kp k12).dp, .lst (SqL.of h12) (.cons (RowAt.dp (r := .frame) ⟨p11, rfl, k12.tup h11⟩) .nil), shaped_frame, shaped_frame, _, rfl, itF (by
        have eb : PyData.eqv (.list ([Row.frame].map rowD)) (.list [rowD .frame]) = true := eqv_same shaped_frame
        rw [eb]; rfl) ?_⟩
      have hro12 := k12.obj0 (k11.obj0 (k10.obj0 hro9))
      have hds12 := k12.obj0 (k11.obj0 (k10.obj0 hds9))
      walk_at "go"
      intro p13 H13 n13 k13 h13
      have h13 : H13 p13 = some (.lst x2) := h13.trans (congrArg (fun l => some (HO.lst l)) (by
        rw [ex0, ex1, ex2, ← List.append_assoc]
        refine cutV_mid (x0 ++ x1) x2 x3 (by rw [List.length_append, l0, l1]; omega) ?_
        rw [List.length_append, l0, l1, l2]
        show ((rH.length : Nat) : Int) + 1 + ((((slk ns).length : Nat) : Int) - (((slk (names (occs ks))).length : Nat) : Int)) = _
        rw [hM]; omega))
      have hx2' := (((hx2.kp k10).kp k11).kp k12).kp k13
      obtain ⟨kf, hkf⟩ : ∃ kf : V → Int, kf = fun y => match y with | .ref t => (match H13 t with | some (.tup [_, .int i]) => i | _ => 0) | _ => 0 := ⟨_, rfl⟩
      have hnew : ∀ (j : Nat) (y : V), x2[j]? = some y → ∃ t, y = .ref t ∧ H13 t = some (.tup [.str "new", .int ((F + j : Nat) : Int)]) ∧ kf y = ((F + j : Nat) : Int) := by
        intro j y hy
        have hjl : j < x2.length := (List.getElem?_eq_some_iff.mp hy).1
        have hr : ((List.range' F (ns.length - F)).map Row.new)[j]? = some (.new (F + j)) := by
          rw [List.getElem?_map, List.getElem?_range' (by omega)]; simp
        obtain ⟨v, hv1, t, hv2, hv3⟩ := hx2'.get hr
        have ey : v = y := by rw [hv1] at hy; exact Option.some.inj hy
        rw [ey] at hv2
        refine ⟨t, hv2, hv3, ?_⟩
        have hv3 : H13 t = some (.tup [.str "new", .int ((F + j : Nat) : Int)]) := hv3
        rw [hkf, hv2]
        simp only [hv3]
      refine ⟨p13, x2, "new", kf, rfl, SqL.of h13, fun y hy => ?_, ?_, fun p14 n14 => ?_⟩
      · obtain ⟨j, hj⟩ := List.getElem?_of_mem hy
        obtain ⟨t, e1, e2, e3⟩ := hnew j y hj
        exact ⟨t, e1, by rw [e2, e3]⟩
      · rw [List.pairwise_iff_getElem]
        intro i j hi hj hij
        obtain ⟨_, _, _, e3⟩ := hnew i _ (List.getElem?_eq_getElem hi)
        obtain ⟨_, _, _, f3⟩ := hnew j _ (List.getElem?_eq_getElem hj)
        rw [e3, f3]; omega
      have k14 : Kp [] H13 (upd H13 p14 (.lst x2)) := Kp.new n14
      have h14 : (upd H13 p14 (.lst x2)) p14 = some (.lst x2) := upd_same
      revert k14 h14
      generalize upd H13 p14 (.lst x2) = H14
      intro k14 h14
      have hds14 := k14.obj0 (k13.obj0 hds12)
      have hro14 := k14.obj0 (k13.obj0 hro12)
      refine ⟨_, rfl, ds, _, rfl, hds14, _, rfl, F, ns.length - F, ?_, by omega, fun p15 xs15 H15 h15 hr15 k15 => ?_⟩
      · show [V.int (((slk ns).length : Nat) : Int), V.int ((((slk ns).length : Nat) : Int) - (((slk (names (occs ks))).length : Nat) : Int))] = _
        rw [hM, slkF_len]
        have e9 : F + (ns.length - F) = ns.length := by omega
        rw [e9]
      have hsn : SeqAt.shaped (.list (((List.range' F (ns.length - F)).map Row.new).map rowD)) = true := shaped_list (lay_news _ _).1 (Nat.le_trans (lay_news _ _).2 (by decide))
      refine ⟨_, _, .lst (SqL.of (k15.obj0 h14)) ((hx2'.kp k14).kp k15).dp, .lst (SqL.of h15) hr15.dp, hsn, hsn, _, rfl, itF (by rw [eqv_same hsn]; rfl) ?_⟩
      have k7_15 : Kp [] H7 H15 := ((((((k79.trans k10).trans k11).trans k12).trans k13).trans k14).trans k15)
      have hds15 := k7_15.obj0 hds7
      have hro15 := k7_15.obj0 hro7
      have hbg15 := k7_15.tup hbg7
      have hg15 : TAs .str H15 gvs gs := hg7.kp k7_15
      have hrv15 : RowsAt H15 xs rs := hrv7.kp k7_15
      clear hnew hx2' h14 h13 h1012 h12 h10
      walk_at "go"
      refine ⟨⟨fun q σ H' => ∃ (pre B : List Row) (at_ : Int) (o9 o10 : Option V), rs = pre ++ (B ++ tl) ∧ at_ = (pre.length : Nat) ∧ GLs (sl ns) (gs.drop q) B ∧ Kp [] H15 H' ∧
        σ = [some (.ref p), some (.int i), some (.ref ah), some (.ref bg), some (.ref ds), some (.ref aro), some (.ref p6), some (.int at_), some (.int ((((slk ns).length : Nat) : Int) - (((slk (names (occs ks))).length : Nat) : Int))), o9, o10, none], ?_, ?_, ?_, ?_⟩⟩
      · refine ⟨rH ++ ([.frame] ++ (List.range' F (ns.length - F)).map Row.new), rG ++ rg, _, _, _, ?_, ?_, ?_, Kp.refl _ _, rfl⟩
        · rw [ers, ere]; simp only [List.append_assoc]
        · show ((rH.length : Nat) : Int) + 1 + ((((slk ns).length : Nat) : Int) - (((slk (names (occs ks))).length : Nat) : Int)) = _
          rw [hM, List.length_append, List.length_append, List.length_singleton, List.length_map, List.length_range']
          omega
        · rw [egs]; exact GLs.of hgl9 hG
      · rintro q σ H' ⟨pre, B, at_, o9, o10, e1, e2, e3, e4, rfl⟩
        exact e4.tup hbg15
      · rintro q y σ H16 hy ⟨pre, B, at_, o9, o10, e1, e2, e3, e4, rfl⟩
        obtain ⟨t, ht1, ht2⟩ := hg15.get hy
        have hql : q < gs.length := (List.getElem?_eq_some_iff.mp ht1).1
        have hmem := List.mem_of_getElem? ht1
        have hdrop : gs.drop q = t :: gs.drop (q + 1) := by
          have e9 : gs[q] = t := (List.getElem?_eq_some_iff.mp ht1).2
          rw [List.drop_eq_getElem_cons hql, e9]
        rw [hdrop] at e3
        obtain ⟨j, r1, r2, f1, f2, f3⟩ := e3
        have hsz24 := hgz t hmem
        have hok24 : t.ok := oks_mem hgo hmem
        have hrsx : rs = pre ++ r1 ++ (r2 ++ tl) := by rw [e1, f1]; simp only [List.append_assoc]
        have hrv16 : RowsAt H16 xs (pre ++ r1 ++ (r2 ++ tl)) := hrsx ▸ (hrv15.kp e4)
        refine ⟨_, rfl, _, rfl, aro, xs, pre, r1, r2 ++ tl, sl ns, j, t, by rw [e2], e4.obj0 hro15, hrv16, f2, hok24, by omega, by rw [← hrsx]; omega, fun p17 u17 H17 h17 hu17 k17 => gtup2 h17 ?_⟩
        have ht17 := (ht2.kp e4).kp k17
        have hds17 := k17.obj0 (e4.obj0 hds15)
        have hgx := gin t hmem
        have hsz30 : t.size ≤ 30 := by omega
        walk_at "go"
        intro u18 H18 hu18 k18
        have hst := shaped_term (sl ns) hok24 hsz30
        refine ⟨_, _, TA.dp (g := fun x => PyData.int ((sl ns x : Nat) : Int)) (fun x => .int _) _ _ (hu17.kp k18), TA.dp (g := fun x => PyData.int ((sl ns x : Nat) : Int)) (fun x => .int _) _ _ hu18, hst, hst, _, rfl, itF (by rw [eqv_same hst]; rfl) ?_⟩
        exact ⟨pre ++ r1, r2, _, _, _, by rw [hrsx], rfl, f3, (e4.trans k17).trans k18, rfl⟩
      · rintro σ H16 ⟨pre, B, at_, o9, o10, e1, e2, e3, e4, rfl⟩
        rw [hgl2, List.drop_length] at e3
        have e3 : B = [] := e3
        subst e3
        rw [List.nil_append] at e1
        have epre : pre = rH ++ .frame :: (List.range' F (ns.length - F)).map Row.new ++ rG ++ rg := by
          refine List.append_cancel_right (bs := tl) ?_
          rw [← e1, ers, ere]
          simp only [List.append_assoc, List.cons_append, List.nil_append]
        have k7_16 := k7_15.trans e4
        have hbg16 := e4.tup hbg15
        have hg16 : TAs .str H16 gvs gs := hg15.kp e4
        rw [egs] at hg16
        obtain ⟨_, _, gv0, gv, eg1, eg2, hg0, hgv2⟩ := hg16.last (by simp)
        obtain ⟨eg3, eg4⟩ := List.append_inj' eg1 rfl
        injection eg4 with eg4
        subst eg2
        rw [← eg4] at hgv2
        have k016 := k07.trans k7_16
        cases hgl9 with
        | named hw =>
          rename_i sg kg
          obtain ⟨ag, bgg, vg, rfl, hag, hbgg, hkg⟩ := hgv2
          have etl : tl = [] := by
            rw [← List.append_assoc] at htl
            exact htl.none rfl
          subst etl
          rw [List.append_nil] at e1
          have hsg : decide (sg ∈ (["keep", "not", "=", ":=", "<", "<="] : List Str)) = false := by
            rw [decide_eq_false_iff_not]
            intro z
            simp only [List.mem_cons, List.not_mem_nil, or_false] at z
            rcases z with z | z | z | z | z | z
            · exact hw.2.1 .keep z
            · exact hw.2.2 z
            · exact hw.2.1 .eq z
            · exact hw.2.1 .asg z
            · exact hw.2.1 .lt z
            · exact hw.2.1 .le z
          refine ⟨_, rfl, bg, gv0, _, rfl, hbg16, ag, _, _, rfl, hag, rfl, Nat.le_of_ble_eq_true rfl, fun pz Hz nz kz hz => ⟨_, pz, rfl, rfl, hz, _, rfl, itF hsg ?_⟩⟩
          have hroz := kz.obj0 (e4.obj0 hro15)
          have hrvz : RowsAt Hz xs rs := (hrv15.kp e4).kp kz
          have ers2 : rs = (rH ++ .frame :: (List.range' F (ns.length - F)).map Row.new ++ rG ++ brings (sl ns) 0 kg kg.length) ++ [.jump sg kg.length] := by
            rw [e1, epre]; simp only [List.append_assoc, if_true]
          have hnj : NJ (rH ++ .frame :: (List.range' F (ns.length - F)).map Row.new ++ rG ++ brings (sl ns) 0 kg kg.length) := by
            refine NJ.append (NJ.append (NJ.append (nj_heads htk.heads) ?_) hG.nj) (nj_brings (brings_brings _ _ _ _))
            intro r hr e
            rcases List.mem_cons.mp hr with rfl | hr
            · revert e; show ("frame" : Str) ≠ "jump"; decide +kernel
            · obtain ⟨x, _, rfl⟩ := List.mem_map.mp hr
              revert e; show ("new" : Str) ≠ "jump"; decide +kernel
          obtain ⟨X, eX⟩ : ∃ X, X = rH ++ .frame :: (List.range' F (ns.length - F)).map Row.new ++ rG ++ brings (sl ns) 0 kg kg.length := ⟨_, rfl⟩
          rw [← eX] at ers2 hnj
          have hxl : xs.length = rs.length := hrvz.len
          have hatl : pre.length = X.length + 1 := by rw [← e1, ers2, List.length_append, List.length_singleton]
          subst e2
          obtain ⟨x1, xj, ex1, hx1, hxj⟩ := (show RowsAt Hz xs (X ++ [.jump sg kg.length]) from ers2 ▸ hrvz).split
          have hx1l := hx1.len
          have hXl : x1.length ≤ 900 := by
            have h9 := congrArg List.length e1
            omega
          match xj, hxj with
          | [vj], ⟨⟨bj, evj, hbj⟩, _⟩ =>
          subst evj
          have hbj : Hz bj = some (.tup [.str "jump", .str sg, .int (kg.length : Nat)]) := hbj
          have sh0 : SeqAt.shaped (.list []) = true := by decide +kernel
          refine ⟨_, rfl, _, rfl, _, rfl, aro, xs, rfl, hroz, fun p9 H9 n9 k9 h9 => ?_⟩
          have h9 : H9 p9 = some (.lst []) := h9.trans (congrArg (fun l => some (HO.lst l)) (by
            have := cutV_end xs [] (i := ((pre.length : Nat) : Int)) (by rw [hxl, e1])
            rw [List.append_nil] at this
            exact this))
          walk_at "go"
          intro pa Ha na ka ha
          refine ⟨_, _, .lst (SqL.of (ka.obj0 h9)) .nil, .lst (SqL.of ha) .nil, sh0, sh0, _, rfl, itT (by decide +kernel) ?_⟩
          have hroa := ka.obj0 (k9.obj0 hroz)
          have hati : (((pre.length : Nat) : Int) - 1) = ((X.length : Nat) : Int) := by omega
          refine ⟨_, rfl, _, rfl, _, _, rfl, rfl, aro, xs, X.length, .ref bj, rfl, ?_, hroa, ?_, bj, _, _, rfl, ka.tup (k9.tup hbj), rfl, rfl, _, rfl, itT (by decide +kernel) ?_⟩
          · show V.int (((pre.length : Nat) : Int) - 1) = _
            rw [hati]
          · rw [ex1, List.getElem?_append_right (by omega), hx1l, Nat.sub_self]; rfl
          refine ⟨_, rfl, _, rfl, _, _, rfl, rfl, _, rfl, aro, xs, rfl, hroa, fun p20 H20 n20 k20 h20 => ?_⟩
          have h20 : H20 p20 = some (.lst x1) := h20.trans (congrArg (fun l => some (HO.lst l)) (by
            rw [ex1]
            exact cutV_ini x1 [.ref bj] (by
              show ((pre.length : Nat) : Int) - 1 = _
              rw [hati, hx1l])))
          have hx20 : RowsAt H20 x1 X := ((hx1.kp k9).kp ka).kp k20
          refine ⟨p20, x1, rfl, h20, [], _, LcOk.mk' (fun q ys H => ys = (X.take q).map (fun r => V.str r.word) ∧ q ≤ X.length) (by omega) (by simp) ⟨rfl, Nat.zero_le _⟩ (fun m ys H H' D hD kk r k => r) ?_ ?_ ?_, by simp⟩
          · rintro q ys H ⟨rfl, hq⟩
            rw [List.length_map, List.length_take]; omega
          · rintro q ys H21 hq kk ⟨rfl, hq2⟩ y hy
            have hql : q < X.length := by rw [← hx1l]; exact hq
            obtain ⟨v, hv1, b, hv2, hv3⟩ := (hx20.kp kk).get (List.getElem?_eq_getElem hql)
            have ey : v = y := by
              have hy : x1[q]? = some y := hy
              rw [hv1] at hy; exact Option.some.inj hy
            subst ey
            subst hv2
            obtain ⟨more, em⟩ := X[q].ks_head
            rw [em] at hv3
            have hv3 : H21 b = some (.tup (.str X[q].word :: more.map kV)) := hv3
            refine ⟨_, rfl, b, _, _, rfl, hv3, rfl, Kp.refl _ _, kk, ?_, by omega⟩
            rw [List.take_add_one, List.getElem?_eq_getElem hql, List.map_append]; rfl
          · rintro ys H21 p21 hp21 kk ⟨rfl, _⟩ e21
            rw [hx1l, List.take_length] at e21
            refine ⟨p21, _, rfl, .inl (SqL.of e21), rfl, ?_, _, false, rfl, rfl, ?_⟩
            · have : ∀ l : List Row, (l.map fun r => V.str r.word).all flatV = true := by
                intro l
                induction l with
                | nil => rfl
                | cons a l ih => rw [List.map_cons, List.all_cons, ih]; rfl
              exact this X
            · have hin : ∀ l : List Row, NJ l → inV (.str "jump") (l.map fun r => V.str r.word) = false := by
                intro l hl
                have e : (l.map fun r => V.str r.word) = (l.map Row.word).map V.str := by rw [List.map_map]; rfl
                rw [e, inV_strs, decide_eq_false_iff_not]
                intro z
                obtain ⟨r, hr, e2⟩ := List.mem_map.mp z
                exact hl r hr e2
              have e9 : decide ((if false = true then !inV (.str "jump") (X.map fun r => V.str r.word) else inV (.str "jump") (X.map fun r => V.str r.word)) = false) = true := by
                rw [if_neg (by decide), hin X hnj]; rfl
              have hQ := h H21 (((((k016.trans kz).trans k9).trans ka).trans k20).trans kk)
              show Q (V.bl (decide ((if false = true then !inV (.str "jump") (X.map fun r => V.str r.word) else inV (.str "jump") (X.map fun r => V.str r.word)) = false))) H21
              rw [e9]
              exact hQ
        | nt hw =>
          rename_i sg kg
          obtain ⟨ag, bgg, vg, rfl, hag, hbgg, hkg⟩ := hgv2
          have etl : tl = [.back] := by
            rw [← List.append_assoc] at htl
            exact htl.back1 (by show ("not" : Str) ≠ "jump"; decide +kernel)
          subst etl
          refine ⟨_, rfl, bg, gv0, _, rfl, hbg16, ag, _, _, rfl, hag, rfl, Nat.le_of_ble_eq_true rfl, fun pz Hz nz kz hz => ⟨_, pz, rfl, rfl, hz, _, rfl, itT (by decide +kernel) ?_⟩⟩
          exact retBack pre _ Hz at_ e1 e2 (k7_16.trans kz) rfl rfl
        | deed q hq =>
          rename_i kg
          obtain ⟨ag, bgg, vg, rfl, hag, hbgg, hkg⟩ := hgv2
          have etl : tl = [.back] := by
            rw [← List.append_assoc] at htl
            exact htl.back1 (by cases q <;> decide +kernel)
          subst etl
          refine ⟨_, rfl, bg, gv0, _, rfl, hbg16, ag, _, _, rfl, hag, rfl, Nat.le_of_ble_eq_true rfl, fun pz Hz nz kz hz => ⟨_, pz, rfl, rfl, hz, _, rfl, itT (by cases q <;> decide +kernel) ?_⟩⟩
          exact retBack pre _ Hz at_ e1 e2 (k7_16.trans kz) rfl rfl
end
end GT
/-! GuC: the law reads: switch. -/
namespace GT
open PySem L2 GL PyProof.Rows RT
/-! tactics: a fact of the heap by what was kept; the reading's small steps -/
local macro_rules | `(tactic| walk_at "hp") => `(tactic| first | assumption | (refine Kp.tup (by assumption) ?_; walk_at "hp") | (refine Kp.obj0 (by assumption) ?_; walk_at "hp") | (refine Kp.obj1 (by assumption) ?_ (by first | assumption | (apply Ne.symm; assumption)); walk_at "hp"))
local macro_rules | `(tactic| walk_at "kp") => `(tactic| first | assumption | exact Kp.refl _ _ | (refine Kp.trans ?_ (Kp.wk (by assumption) (by simp)); walk_at "kp"))
local macro_rules | `(tactic| walk_at "nn") => `(tactic| first | assumption | (refine Kp.fr (by assumption) _ ?_; walk_at "nn"))
local macro_rules | `(tactic| walk_at "go") => `(tactic| repeat (first | (refine And.intro ?_ ?_; (first | rfl | walk_at "hp" | decide | (refine Or.inl ?_; walk_at "hp") | (refine Or.inr ?_; walk_at "hp") | (refine SqL.of ?_; walk_at "hp") | exact Nat.le_of_ble_eq_true rfl | exact kvS _ | exact kvI _ | exact cmulL rfl | exact cmulR rfl | exact cpw rfl | exact cdv rfl | exact Ty.int _ | exact Ty.str _ | exact Ty.bl _ | exact Ty.lst (by walk_at "hp") | exact Ty.tup (by walk_at "hp") | walk_at "kp" | omega | (dsimp only; first | decide | omega))) | apply Exists.intro))

theorem eqv_keys : ∀ k1 k2 : List L2.Key, PyData.eqvAll (k1.map kD) (k2.map kD) = decide (k1 = k2)
  | [], [] => by simp [PyData.eqvAll]
  | [], b :: r => by simp [PyData.eqvAll]
  | a :: r, [] => by simp [PyData.eqvAll]
  | a :: r, b :: r2 => by
    have ih := eqv_keys r r2
    rw [List.map_cons, List.map_cons, PyData.eqvAll, ih]
    cases a with
    | inl i =>
      cases b with
      | inl j =>
        by_cases e : i = j
        · subst e; simp [kD, PyData.eqv]
        · simp [kD, PyData.eqv, e]
      | inr t => simp [kD, PyData.eqv]
    | inr s =>
      cases b with
      | inl j => simp [kD, PyData.eqv]
      | inr t =>
        by_cases e : s = t
        · subst e; simp [kD, PyData.eqv]
        · simp [kD, PyData.eqv, e]
theorem eqv_tkeys (k1 k2 : List L2.Key) : PyData.eqv (.tuple (k1.map kD)) (.tuple (k2.map kD)) = decide (k1 = k2) := by
  rw [PyData.eqv]; exact eqv_keys k1 k2
/-- a key that can be laid -/
def KOk (k : List L2.Key) : Prop := SeqAt.shaped (.tuple (k.map kD)) = true
theorem kOf_ok {t : GT.T} (h : t.ok) {k : List L2.Key} (e : kOf t = some k) : KOk k := by
  cases t with
  | any x => cases e
  | num i => cases e
  | app s ks =>
    cases ks with
    | nil => cases e
    | cons a r =>
      have ha := h.2.2.1
      cases a with
      | any x => cases e
      | num i =>
        cases e
        refine shaped_tuple ?_ (by simp [PyData.depthAll, kD, PyData.depth])
        show (PyData.canLay0 (.str "num") && (PyData.canLay0 (.int i) && true)) = true
        have e1 : PyData.canLay0 (.str "num") = true := by decide +kernel
        rw [e1]; rfl
      | app g m =>
        cases e
        refine shaped_tuple ?_ (by simp [PyData.depthAll, kD, PyData.depth])
        show (PyData.canLay0 (.str "app") && (PyData.canLay0 (.str g) && (PyData.canLay0 (.int (m.length : Nat)) && true))) = true
        have e1 : PyData.canLay0 (.str "app") = true := by decide +kernel
        have e2 : PyData.canLay0 (.str g) = true := ha.1
        rw [e1, e2]; rfl
section
variable {P : Program} {w : World} {K : PySem.W.Frag} {mg : Str → Option Value} {base : Heap} {C d : Addr} {es : Array DictEntry} {n : Nat} {k : Nat}
abbrev s_switch : Stmt := (topS 38)
abbrev N_switch : List Str := ["_law_heads", "_law_keys", "_law_head_here", "_law_others", "_law_k", "_law_key_here", "_law_known"]
theorem sc_switch : FnScope N_switch ["_law_heads"] (defScope s_switch) := ⟨rfl, rfl, rfl, by decide +kernel, rfl, by decide +kernel, by decide +kernel⟩

def spSwitch : Sp := fun vs H Q _ => ∃ (a : Addr) (xs : List V) (ts : List GT.T), vs = [.ref a] ∧ H a = some (.lst xs) ∧ TAs .str H xs ts ∧ (∀ t ∈ ts, (∃ s ks, t = .app s ks) ∧ t.ok) ∧ ts.length ≤ 50 ∧
  ∀ p H', SwAt H' [] p (ts.map kOf) → Kp [] H H' → Q (.ref p) H'
theorem ok_switch (tx : Txt K w mg C d es n) (d_key : Def P w K mg base "_law_key" k ["_law_head_here"] spFirstKey) (D : DefAt K mg "_law_switch" s_switch ["_law_heads"]) : Def P w K mg base "_law_switch" (k + 1) ["_law_heads"] spSwitch := by
  refine D.ok sc_switch (fun vs H Q E h => ?_) (fun f cdv A outer s H vs Q E hr h => ?_)
  · obtain ⟨a, xs, ts, rfl, _⟩ := h; rfl
  · obtain ⟨a, xs, ts, rfl, ha, ht, happ, hl, h⟩ := h
    have hu := hu_of hr
    have hxl := ht.len
    refine ⟨_, (pss_cons (ps_set (i := 1) sc_switch.nd rfl (by first | exact .inl rfl | exact .inr rfl) pe_dnewTN)
      (pss_cons (ps_forL PassesOwn.never rfl (pv 0) (pg_name (i := 2) sc_switch.nd rfl (by first | exact .inl rfl | exact .inr rfl)) (pss_one (ps_if (pt_cmpR op_notN (pe_cl d_key (hr.mono (by omega)) (pa_cons (pv 2) pa_nil)) pe_non (nomark _)) (pss_one (ps_putT hu (pv 1) (pe_cl d_key (hr.mono (by omega)) (pa_cons (pv 2) pa_nil)) pe_int)) pss_nil)))
      (pss_cons (ps_set (i := 3) sc_switch.nd rfl (by first | exact .inl rfl | exact .inr rfl) pe_int)
      (pss_cons (ps_forR PassesOwn.never rfl (by rfl) tx.range_ (pe_len (by rfl) tx.len_ (pv 0)) (pg_name (i := 4) sc_switch.nd rfl (by first | exact .inl rfl | exact .inr rfl)) (pss_cons (ps_set (i := 5) sc_switch.nd rfl (by first | exact .inl rfl | exact .inr rfl) (pe_cl d_key (hr.mono (by omega)) (pa_cons (pe_il (pv 0) (pv 4)) pa_nil)))
      (pss_cons (ps_set (i := 3) sc_switch.nd rfl (by first | exact .inl rfl | exact .inr rfl) (pe_op op_add (pv 3) (pe_op op_mul (pe_op op_shl pe_int (pv 4)) (pe_callTy call_int1 (by rfl) tx.int_ boot_int (pa_cons (pe_cmpR op_isN (pv 5) pe_non (nomark _)) pa_nil)))))
      (pss_one (ps_forL PassesOwn.never rfl (pe_listT rfl (by rfl) tx.list_ (pv 1)) (pg_name (i := 6) sc_switch.nd rfl (by first | exact .inl rfl | exact .inr rfl)) (pss_one (ps_if (PW.pt (pw_or (pt_cmpR op_isN (pv 5) pe_non (nomark _)) (pw_or1 (pt_cmpR (op_eqD hr.units) (pv 5) (pv 6) (nomark _))))) (pss_one (ps_putT hu (pv 1) (pv 6) (pe_op op_add (pe_dget hu (pv 1) (pv 6) (fun _ _ => rfl)) (pe_op op_shl pe_int (pv 4))))) pss_nil)))))))
      (pss_one (ps_ret (pe_tupN (pa_cons (pv 1) (pa_cons (pv 3) (pa_cons (pe_op op_sub (pe_op op_shl pe_int (pe_len (by rfl) tx.len_ (pv 0))) pe_int) pa_nil)))))))))), ?_⟩
    walk_at "go"
    intro q H1 n1 k1 h1
    have naq : a ≠ q := by rintro rfl; rw [ha] at n1; cases n1
    have ha1 := k1.obj0 ha
    refine ⟨_, rfl, a, xs, rfl, ⟨⟨fun m σ H' => ∃ o2, H' q = some (.dT ((ksOf ((ts.take m).map kOf)).map fun k => (k, .int 0))) ∧ Kp [q] H1 H' ∧ σ = [some (.ref a), some (.ref q), o2, none, none, none, none],
      ⟨_, h1, Kp.refl _ _, rfl⟩, ?_, ?_, ?_⟩⟩⟩
    · rintro m σ H' ⟨o2, e1, e2, rfl⟩
      exact e2.obj1 ha1 naq
    · rintro m y σ H2 hy ⟨o2, e1, e2, rfl⟩
      obtain ⟨t, ht1, ht2⟩ := ht.get hy
      obtain ⟨⟨s0, ks0, et⟩, _⟩ := happ t (List.mem_of_getElem? ht1)
      have hm : m < ts.length := (List.getElem?_eq_some_iff.mp ht1).1
      have k02 : Kp [q] H H2 := (k1.any _).trans e2
      have eos1 : (ts.take (m + 1)).map kOf = (ts.take m).map kOf ++ [kOf t] := by rw [take_succ ht1, List.map_append]; rfl
      refine ⟨_, rfl, y, s0, ks0, rfl, et ▸ ht2.kp k02, fun u H3 hk3 k3 => ⟨rfl, _, rfl, ?_⟩⟩
      rw [← et] at hk3
      have hq3 := k3.obj0 e1
      cases hkt : kOf t with
      | none =>
        rw [hkt] at hk3
        have hk3 : u = .non := hk3
        subst hk3
        refine itF (by decide) ⟨_, ?_, e2.trans (k3.any _), rfl⟩
        rw [eos1, ksOf_snoc, hkt]; exact hq3
      | some k' =>
        rw [hkt] at hk3
        obtain ⟨b, rfl, hb⟩ := hk3
        refine itT rfl ?_
        refine ⟨_, rfl, _, rfl, y, s0, ks0, rfl, et ▸ (ht2.kp k02).kp k3, fun u4 H4 hk4 k4 => ?_⟩
        rw [← et, hkt] at hk4
        obtain ⟨b4, rfl, hb4⟩ := hk4
        have hkl := len_ksOf ((ts.take m).map kOf)
        rw [List.length_map, List.length_take] at hkl
        have hq4 := k4.obj0 hq3
        refine ⟨q, b4, _, k', rfl, rfl, hq4, hb4, by rw [List.length_map]; omega, fun H5 k5 h5 => ⟨_, ?_, ((e2.trans (k3.any _)).trans (k4.any _)).trans k5, rfl⟩⟩
        rw [h5, putK_mapF, eos1, hkt, ksOf_snoc]
        refine congrArg (fun l => some (HO.dT l)) (List.map_congr_left fun z hz => ?_)
        split <;> rfl
    · rintro σ H2 ⟨o2, e1, e2, rfl⟩
      rw [hxl, List.take_length] at e1
      have ha2 := e2.obj1 ha1 naq
      obtain ⟨KS, eKS⟩ : ∃ KS, KS = ksOf (ts.map kOf) := ⟨_, rfl⟩
      rw [← eKS] at e1
      have hKl : KS.length ≤ 50 := by
        have := len_ksOf (ts.map kOf)
        rw [List.length_map] at this
        rw [eKS]; omega
      have hKn : KS.Nodup := by rw [eKS]; exact nodup_ksOf _
      have hKok : ∀ k ∈ KS, KOk k := fun k hk => by
        rw [eKS, mem_ksOf] at hk
        obtain ⟨t, ht, e⟩ := List.mem_map.mp hk
        exact kOf_ok (happ t ht).2 e
      refine ⟨_, rfl, a, xs, rfl, .inl ha2, xs.length, rfl, by omega, ⟨⟨fun m σ H' => ∃ o2 o4 o5 o6, H' q = some (.dT (swD ((ts.take m).map kOf) KS)) ∧ Kp [q] H1 H' ∧
        σ = [some (.ref a), some (.ref q), o2, some (.int ((wt pn ((ts.take m).map kOf) : Nat) : Int)), o4, o5, o6],
        ⟨_, _, _, _, e1, e2, rfl⟩, ?_, ?_⟩⟩⟩
      · rintro m σ H4 hm ⟨o2, o4, o5, o6, f1, f2, rfl⟩
        have hm : m < ts.length := by rw [← hxl]; exact hm
        obtain ⟨y, hy⟩ : ∃ y, xs[m]? = some y := ⟨_, List.getElem?_eq_getElem (by rw [hxl]; exact hm)⟩
        obtain ⟨t, ht1, ht2⟩ := ht.get hy
        have htm := List.mem_of_getElem? ht1
        obtain ⟨⟨s0, ks0, et⟩, htok⟩ := happ t htm
        have k04 : Kp [q] H H4 := (k1.any _).trans f2
        obtain ⟨os, eos⟩ : ∃ os, os = (ts.take m).map kOf := ⟨_, rfl⟩
        have hosl : os.length = m := by rw [eos, List.length_map, List.length_take]; omega
        have eos1 : (ts.take (m + 1)).map kOf = os ++ [kOf t] := by rw [take_succ ht1, List.map_append, eos]; rfl
        rw [← eos] at f1 ⊢
        have hbit : (1 : Int) * 2 ^ ((m : Nat) : Int).toNat = ((2 ^ m : Nat) : Int) := by rw [Int.toNat_natCast, Int.one_mul, Int.natCast_pow]; rfl
        refine ⟨_, rfl, _, rfl, a, xs, m, y, rfl, rfl, f2.obj1 ha1 naq, hy, y, s0, ks0, rfl, et ▸ ht2.kp k04, fun u H5 hk5 k5 => ?_⟩
        rw [← et] at hk5
        have hq5 := k5.obj0 f1
        obtain ⟨bv, hbv⟩ : ∃ bv : Bool, bv = decide (u = .non) := ⟨_, rfl⟩
        have hbn : bv = pn (kOf t) := by
          rw [hbv]
          cases hkt : kOf t with
          | none => rw [hkt] at hk5; have hk5 : u = .non := hk5; rw [hk5]; rfl
          | some k' => rw [hkt] at hk5; obtain ⟨b, e, _⟩ := hk5; rw [e]; rfl
        have hwN : wt pn (os ++ [kOf t]) = wt pn os + (if bv then 2 ^ m else 0) := by rw [wt_snoc, hosl, hbn]
        have hoth : (((wt pn os : Nat) : Int) + ((1 : Int) * 2 ^ ((m : Nat) : Int).toNat) * (if decide (u = .non) = true then 1 else 0)) = ((wt pn (os ++ [kOf t]) : Nat) : Int) := by
          rw [hwN, hbit, ← hbv]
          cases bv <;> simp
        refine ⟨_, rfl, _, rfl, _, _, rfl, rfl, ⟨by omega, by omega, by decide⟩, _, rfl, rfl, .inr ⟨_, rfl, ?_⟩⟩
        refine ⟨_, _, rfl, rfl, ?_, _, _, rfl, rfl, ?_⟩
        · cases decide (u = .non)
          · exact .inr ⟨by decide, by decide⟩
          · exact .inr ⟨by decide, by decide⟩
        refine ⟨_, rfl, q, _, rfl, hq5, fun bs hbs p H7 n7 k7 h7 => ?_⟩
        have npq : p ≠ q := by rintro rfl; rw [hq5] at n7; cases n7
        have hkeys : ∀ j b, bs[j]? = some b → ∃ k : List L2.Key, KS[j]? = some k ∧ H5 b = some (.tup (k.map kV)) := fun j b hb => by
          obtain ⟨kv, e1, e2⟩ := GL.pgetR hbs hb
          rw [List.getElem?_map] at e1
          obtain ⟨k, e3, e4⟩ := Option.map_eq_some_iff.mp e1
          subst e4
          exact ⟨k, e3, e2⟩
        have hbl : bs.length = KS.length := by
          have := hbs.length
          simpa using this.symm
        refine ⟨p, bs.map V.ref, rfl, ⟨⟨fun j σ H' => ∃ o6, H' q = some (.dT (KS.map fun (k : List L2.Key) => (k, V.int ((wt (pk k) (mif (KS.take j) k (os ++ [kOf t]) os) : Nat) : Int)))) ∧ Kp [q] H7 H' ∧
          σ = [some (.ref a), some (.ref q), o2, some (.int ((wt pn (os ++ [kOf t]) : Nat) : Int)), some (.int (m : Nat)), some u, o6], ?_, ?_, ?_, ?_⟩⟩⟩
        · refine ⟨o6, ?_, Kp.refl _ _, ?_⟩
          · rw [k7.obj0 hq5]
            refine congrArg (fun l => some (HO.dT l)) (List.map_congr_left fun z hz => ?_)
            rw [mif_neg (by simp)]
          · rw [← hoth]; rfl
        · rintro j σ H' ⟨o6, e1, e2, rfl⟩
          exact e2.obj1 h7 npq
        · rintro j y2 σ H8 hy2 ⟨o6, g1, g2, rfl⟩
          rw [List.getElem?_map] at hy2
          obtain ⟨b, hb3, rfl⟩ := Option.map_eq_some_iff.mp hy2
          obtain ⟨k', hk1, hk2⟩ := hkeys j b hb3
          have hb8 : H8 b = some (.tup (k'.map kV)) := g2.tup (k7.tup hk2)
          have hin := List.mem_of_getElem? hk1
          have hnt : k' ∉ KS.take j := nodup_take hKn hk1
          have hstep : ∀ (c : Bool), c = pk k' (kOf t) → (c = true → ∀ H9, Kp [q] H8 H9 → H9 q = some (.dT (putK (KS.map fun (k : List L2.Key) => (k, V.int ((wt (pk k) (mif (KS.take j) k (os ++ [kOf t]) os) : Nat) : Int))) k' (.int ((wt (pk k') os + 2 ^ m : Nat) : Int)))) → H9 q = some (.dT (KS.map fun (k : List L2.Key) => (k, V.int ((wt (pk k) (mif (KS.take (j + 1)) k (os ++ [kOf t]) os) : Nat) : Int))))) ∧
              (c = false → H8 q = some (.dT (KS.map fun (k : List L2.Key) => (k, V.int ((wt (pk k) (mif (KS.take (j + 1)) k (os ++ [kOf t]) os) : Nat) : Int))))) := by
            intro c hc
            have hmif : ∀ z, z ≠ k' → mif (KS.take (j + 1)) z (os ++ [kOf t]) os = mif (KS.take j) z (os ++ [kOf t]) os := fun z ez => by
              rw [List.take_add_one, hk1]
              by_cases hz2 : z ∈ KS.take j
              · rw [mif_pos hz2, mif_pos (List.mem_append.mpr (.inl hz2))]
              · rw [mif_neg hz2, mif_neg (by simp [ez, hz2])]
            have hmk : mif (KS.take (j + 1)) k' (os ++ [kOf t]) os = os ++ [kOf t] := by
              rw [List.take_add_one, hk1]; exact mif_pos (by simp)
            refine ⟨fun hct H9 k9 h9 => ?_, fun hcf => ?_⟩
            · rw [h9, putK_mapF]
              have eadg : adg KS k' = KS := by unfold adg; rw [if_pos hin]
              rw [eadg]
              refine congrArg (fun l => some (HO.dT l)) (List.map_congr_left fun z hz => ?_)
              by_cases ez : z = k'
              · subst ez
                rw [if_pos rfl, hmk, wt_snoc, ← hc, if_pos hct, hosl]
              · rw [if_neg ez, hmif z ez]
            · rw [g1]
              refine congrArg (fun l => some (HO.dT l)) (List.map_congr_left fun z hz => ?_)
              by_cases ez : z = k'
              · subst ez
                rw [hmk, mif_neg hnt, wt_snoc, ← hc, if_neg (by rw [hcf]; decide)]; rfl
              · rw [hmif z ez]
          have putit : ∀ (H8' : Hp), Kp [] H8 H8' → pk k' (kOf t) = true → 
              uPutT (tVar 1) (tVar 6) (tOp (rI0 fun i j => V.int (i + j)) (tDGet (tVar 1) (tVar 6)) (tOp (rI CPow fun i j => V.int (i * 2 ^ j.toNat)) (tC (V.int 1)) (tVar 4)))
                { nx := fun σ' H' => ∃ o6, H' q = some (.dT (KS.map fun (k : List L2.Key) => (k, V.int ((wt (pk k) (mif (KS.take (j + 1)) k (os ++ [kOf t]) os) : Nat) : Int)))) ∧ Kp [q] H7 H' ∧ σ' = [some (.ref a), some (.ref q), o2, some (.int ((wt pn (os ++ [kOf t]) : Nat) : Int)), some (.int (m : Nat)), some u, o6], rt := fun _ _ => False, bk := fun _ _ => False, ct := fun _ _ => False }
                [some (.ref a), some (.ref q), o2, some (.int ((wt pn (os ++ [kOf t]) : Nat) : Int)), some (.int (m : Nat)), some u, some (.ref b)] H8' := by
            intro H8' k8' hpk
            have g1' := k8'.obj0 g1
            have hb8' := k8'.tup hb8
            refine ⟨_, rfl, _, rfl, q, .int ((wt (pk k') os : Nat) : Int), rfl, dgT g1' hb8' (by rw [valV_mapF, if_pos hin, mif_neg hnt]), _, rfl, _, _, rfl, rfl, ⟨by omega, by omega, by decide⟩, _, _, rfl, rfl, _, rfl, _, rfl, q, b, _, k', rfl, rfl, g1', hb8', by rw [List.length_map]; omega, fun H9 k9 h9 => ⟨_, ?_, (g2.trans (k8'.any _)).trans k9, rfl⟩⟩
            refine (hstep true hpk.symm).1 rfl H9 ((k8'.any _).trans k9) ?_
            rw [h9]
            dsimp only
            rw [hbit, ← Int.natCast_add]
          cases hkt : kOf t with
          | none =>
            rw [hkt] at hk5
            have hk5 : u = .non := hk5
            subst hk5
            refine ⟨_, rfl, rfl, _, rfl, itT (by decide) (iteT ?_)⟩
            have := putit H8 (Kp.refl _ _) (by rw [hkt]; rfl)
            rw [hkt] at this
            exact this
          | some ko =>
            rw [hkt] at hk5
            obtain ⟨bu, rfl, hbu⟩ := hk5
            have hbu8 := g2.tup (k7.tup hbu)
            have hko : KOk ko := kOf_ok htok hkt
            refine ⟨_, rfl, rfl, _, rfl, itF rfl ?_⟩
            refine ⟨_, rfl, _, rfl, _, _, .tup (SqT.of hbu8) (dp_keys ko), .tup (SqT.of hb8) (dp_keys k'), hko, hKok k' hin, _, rfl, it2 (fun c => ?_) (fun c => ?_)⟩
            · rw [eqv_tkeys, decide_eq_true_eq] at c
              have := putit H8 (Kp.refl _ _) (by rw [hkt, c]; simp [pk])
              rw [hkt] at this
              exact this
            · rw [eqv_tkeys, decide_eq_false_iff_not] at c
              have hpf : false = pk k' (kOf t) := by rw [hkt]; simp [pk]; exact c
              have := (hstep false hpf).2 rfl
              rw [hkt] at this
              exact ⟨_, this, g2, rfl⟩
        · rintro σ H8 ⟨o6, g1, g2, rfl⟩
          rw [List.length_map, hbl, List.take_length] at g1
          have kq : Kp [q] H1 H8 := ((f2.trans (k5.any _)).trans (k7.any _)).trans g2
          refine ⟨o2, some (.int (m : Nat)), some u, o6, ?_, kq, ?_⟩
          · rw [eos1, g1]
            refine congrArg (fun l => some (HO.dT l)) (List.map_congr_left fun z hz => ?_)
            rw [mif_pos hz]
          · rw [eos1]
      · rintro σ H4 ⟨o2, o4, o5, o6, f1, f2, rfl⟩
        rw [hxl, List.take_length] at f1
        have ha4 := f2.obj1 ha1 naq
        refine ⟨_, rfl, _, rfl, _, rfl, a, xs, rfl, .inl ha4, _, _, rfl, rfl, ⟨by omega, by omega, by decide⟩, _, _, rfl, rfl, Nat.le_of_ble_eq_true rfl, fun p H5 n5 k5 h5 => ?_⟩
        have k05 : Kp [] H H5 := (((k1.any [q]).trans f2).one rfl n1).trans k5
        refine h p H5 ⟨q, by simp, ?_, by rw [← eKS]; exact k5.obj0 f1⟩ k05
        rw [h5, hxl, List.take_length]
        have e9 : (1 : Int) * 2 ^ ((ts.length : Nat) : Int).toNat - 1 = ((wt (fun _ => true) (ts.map kOf) : Nat) : Int) := by
          have := wt_true (ts.map kOf)
          rw [List.length_map] at this
          rw [Int.toNat_natCast, Int.one_mul]
          have e8 : ((2 : Int) ^ ts.length) = ((2 ^ ts.length : Nat) : Int) := by rw [Int.natCast_pow]; rfl
          rw [e8, ← this]; omega
        show some (HO.tup [.ref q, .int _, .int ((1 : Int) * 2 ^ ((ts.length : Nat) : Int).toNat - 1)]) = _
        rw [e9]
end
end GT
/-! GuD: the law reads: right. -/
namespace GT
open PySem L2 GL PyProof.Rows RT
/-! tactics: a fact of the heap by what was kept; the reading's small steps -/
local macro_rules | `(tactic| walk_at "hp") => `(tactic| first | assumption | (refine Kp.tup (by assumption) ?_; walk_at "hp") | (refine Kp.obj0 (by assumption) ?_; walk_at "hp") | (refine Kp.obj1 (by assumption) ?_ (by first | assumption | (apply Ne.symm; assumption)); walk_at "hp"))
local macro_rules | `(tactic| walk_at "kp") => `(tactic| first | assumption | exact Kp.refl _ _ | (refine Kp.trans ?_ (Kp.wk (by assumption) (by simp)); walk_at "kp"))
local macro_rules | `(tactic| walk_at "nn") => `(tactic| first | assumption | (refine Kp.fr (by assumption) _ ?_; walk_at "nn"))
local macro_rules | `(tactic| walk_at "go") => `(tactic| repeat (first | (refine And.intro ?_ ?_; (first | rfl | walk_at "hp" | decide | (refine Or.inl ?_; walk_at "hp") | (refine Or.inr ?_; walk_at "hp") | (refine SqL.of ?_; walk_at "hp") | exact Nat.le_of_ble_eq_true rfl | exact kvS _ | exact kvI _ | exact cmulL rfl | exact cmulR rfl | exact cpw rfl | exact cdv rfl | exact Ty.int _ | exact Ty.str _ | exact Ty.bl _ | exact Ty.lst (by walk_at "hp") | exact Ty.tup (by walk_at "hp") | walk_at "kp" | omega | (dsimp only; first | decide | omega))) | apply Exists.intro))

def plc (k : KK) (rs : List Rule) : List V := (sel k 0 rs).map fun p => .int ((p.1 : Nat) : Int)
structure PL (H0 H : Hp) (q : Addr) (ws : List KK) (A : KK → Addr) (rs : List Rule) : Prop where
  kp : Kp [] H0 H
  qf : H0 q = none
  d : H q = some (.dT (ws.map fun k => (k, .ref (A k))))
  at_ : ∀ k ∈ ws, H (A k) = some (.lst (plc k rs))
  fr : ∀ k ∈ ws, H0 (A k) = none
  inj : ∀ x ∈ ws, ∀ y ∈ ws, A x = A y → x = y
  e : ∀ k, k ∉ ws → sel k 0 rs = []
theorem PL.keep {H0 H H' : Hp} {q : Addr} {ws : List KK} {A : KK → Addr} {rs : List Rule} (s : PL H0 H q ws A rs) (k : Kp [] H H') : PL H0 H' q ws A rs :=
  { kp := s.kp.trans k, qf := s.qf, d := k.obj0 s.d, at_ := fun x hx => k.obj0 (s.at_ x hx), fr := s.fr, inj := s.inj, e := s.e }
theorem PL.new {H0 H H1 H' : Hp} {q : Addr} {ws : List KK} {A : KK → Addr} {rs : List Rule} (s : PL H0 H q ws A rs) {w : KK} {p : Addr} (hn : w ∉ ws) (hp : H p = none) (k1 : Kp [] H H1) (h1 : H1 p = some (.lst [])) (k2 : Kp [q] H1 H')
    (h2 : H' q = some (.dT (putK (ws.map fun k => (k, .ref (A k))) w (.ref p)))) : ∃ A', A' w = p ∧ PL H0 H' q (adg ws w) A' rs := by
  have hpk : ∀ x ∈ ws, A x ≠ p := fun x hx e => by
    have := s.at_ x hx
    rw [e, hp] at this; cases this
  have hnx : ∀ x ∈ ws, x ≠ w := fun x hx e => hn (e ▸ hx)
  have hqp : q ≠ p := fun e => by
    have := s.d
    rw [e, hp] at this; cases this
  have hqA : ∀ x ∈ ws, A x ≠ q := fun x hx e => by
    have h1 := s.at_ x hx
    have h2 := s.d
    rw [e, h2] at h1; cases h1
  have kk : Kp [q] H H' := (k1.any _).trans k2
  have hm : ∀ x, x ∈ adg ws w ↔ x ∈ ws ∨ x = w := mem_adg ws w
  refine ⟨fun x => if x = w then p else A x, if_pos rfl, ?_⟩
  refine { kp := s.kp.grow kk s.qf, qf := s.qf, d := ?_, at_ := fun x hx => ?_, fr := fun x hx => ?_, inj := fun x hx y hy e => ?_, e := fun k hk => s.e k fun z => hk ((hm k).mpr (.inl z)) }
  · rw [h2, putK_mapF]
    refine congrArg (fun l => some (HO.dT l)) (List.map_congr_left fun z hz => ?_)
    by_cases ez : z = w
    · subst ez; rw [if_pos rfl]; rw [if_pos rfl]
    · rw [if_neg ez]; rw [if_neg ez]
  · rcases (hm x).mp hx with hx | hx
    · rw [if_neg (hnx x hx)]
      exact kk.obj1 (s.at_ x hx) (hqA x hx)
    · rw [if_pos hx, hx]
      have : plc w rs = [] := by unfold plc; rw [s.e w hn]; rfl
      rw [this]
      exact k2.obj1 h1 (Ne.symm hqp)
  · rcases (hm x).mp hx with hx | hx
    · rw [if_neg (hnx x hx)]; exact s.fr x hx
    · rw [if_pos hx]; exact s.kp.fr _ hp
  · try dsimp only at e
    rcases (hm x).mp hx with hx | hx <;> rcases (hm y).mp hy with hy | hy
    · rw [if_neg (hnx x hx), if_neg (hnx y hy)] at e; exact s.inj x hx y hy e
    · rw [if_neg (hnx x hx), if_pos hy] at e; exact absurd e (hpk x hx)
    · rw [if_neg (hnx y hy), if_pos hx] at e; exact absurd e.symm (hpk y hy)
    · rw [hx, hy]
theorem PL.app {H0 H H' : Hp} {q : Addr} {ws : List KK} {A : KK → Addr} {rs : List Rule} (s : PL H0 H q ws A rs) {r : Rule} (hn : wOf r ∈ ws) (k : Kp [A (wOf r)] H H') (h : H' (A (wOf r)) = some (.lst (plc (wOf r) rs ++ [.int ((rs.length : Nat) : Int)]))) : PL H0 H' q ws A (rs ++ [r]) := by
  have hqA : q ≠ A (wOf r) := fun e => by
    have h1 := s.at_ _ hn
    have h2 := s.d
    rw [e, h1] at h2; cases h2
  refine { kp := s.kp.grow k (s.fr _ hn), qf := s.qf, d := k.obj1 s.d hqA, at_ := fun x hx => ?_, fr := s.fr, inj := s.inj, e := fun z hz => ?_ }
  · by_cases hx2 : wOf r = x
    · subst hx2
      rw [h]
      unfold plc
      rw [sel_snoc, if_pos rfl, List.map_append, Nat.zero_add]; rfl
    · have e : plc x (rs ++ [r]) = plc x rs := by
        unfold plc
        rw [sel_snoc, if_neg hx2, List.append_nil]
      rw [e]
      exact k.obj1 (s.at_ x hx) fun e => hx2 (s.inj x hx _ hn e).symm
  · rw [sel_snoc, s.e z hz, if_neg (fun (e : wOf r = z) => hz (by rw [← e]; exact hn))]; rfl
section
variable {P : Program} {w : World} {K : PySem.W.Frag} {mg : Str → Option Value} {base : Heap} {C d : Addr} {es : Array DictEntry} {n : Nat} {k : Nat}
abbrev s_right : Stmt := (topS 39)
abbrev N_right : List Str := ["_law_found", "_law_rules_here", "_law_words", "_law_k", "_law_head_here", "_law_word", "_law_places", "_law_codes", "_law_switch_here"]
theorem sc_right : FnScope N_right ["_law_found", "_law_rules_here"] (defScope s_right) := ⟨rfl, rfl, rfl, by decide +kernel, rfl, by decide +kernel, by decide +kernel⟩

def spRight : Sp := fun vs H Q _ => ∃ (pf a : Addr) (xs : List V) (rs : List Rule), vs = [.ref pf, .ref a] ∧ Found H pf rs ∧ H a = some (.lst xs) ∧ RAs H xs rs ∧ (∀ r ∈ rs, ROk r) ∧ rs.length ≤ 40 ∧ ∀ H', Kp [] H H' → Q (.bl true) H'
theorem ok_right (tx : Txt K w mg C d es n) (d_rule_right : Def P w K mg base "_law_rule_right" k ["_law_found", "_law_number", "_law_head_here", "_law_goals"] spRuleRight) (d_switch : Def P w K mg base "_law_switch" k ["_law_heads"] spSwitch) (D : DefAt K mg "_law_right" s_right ["_law_found", "_law_rules_here"]) : Def P w K mg base "_law_right" (k + 1) ["_law_found", "_law_rules_here"] spRight := by
  refine D.ok sc_right (fun vs H Q E h => ?_) (fun f cdv A outer s H vs Q E hr h => ?_)
  · obtain ⟨pf, a, xs, rs, rfl, _⟩ := h; rfl
  · obtain ⟨pf, a, xs, rs, rfl, ⟨F, hf, hfd⟩, ha, hR, hok, hl, h⟩ := h
    have hu := hu_of hr
    have hxl := hR.len
    refine ⟨_, (pss_cons (ps_set (i := 2) sc_right.nd rfl (by first | exact .inl rfl | exact .inr rfl) pe_dnewTN)
      (pss_cons (ps_forR PassesOwn.never rfl (by rfl) tx.range_ (pe_len (by rfl) tx.len_ (pv 1)) (pg_name (i := 3) sc_right.nd rfl (by first | exact .inl rfl | exact .inr rfl)) (pss_cons (ps_set (i := 4) sc_right.nd rfl (by first | exact .inl rfl | exact .inr rfl) (pe_tc (n := 0) (pe_il (pv 1) (pv 3))))
      (pss_one (ps_expr (pe_app (pe_setdT hu (pv 2) (pe_tupN (pa_cons (pe_tc (n := 1) (pv 4)) (pa_cons (pe_len (by rfl) tx.len_ (pe_tc (n := 2) (pv 4))) pa_nil))) (pe_lstN pa_nil)) (pv 3))))))
      (pss_cons (ps_if (PW.pt (pw_or (pt_not (pt_val (pe_isi (by rfl) tx.isinstance_ (pv 0) (pe_bltn (v := .ty "dict") (by rfl) tx.dict_ boot_dict rfl)))) (pw_or1 (pt_cmpR op_ne (pe_lenT (by rfl) tx.len_ (pv 0)) (pe_lenT (by rfl) tx.len_ (pv 2)) (nomark _))))) (pss_one (ps_ret pe_bl)) pss_nil)
      (pss_cons (ps_forKT PassesOwn.never rfl (pv 2) (pg_name (i := 5) sc_right.nd rfl (by first | exact .inl rfl | exact .inr rfl)) (pss_cons (ps_set (i := 6) sc_right.nd rfl (by first | exact .inl rfl | exact .inr rfl) (pe_dget hu (pv 2) (pv 5) (fun _ _ => rfl)))
      (pss_cons (ps_if (PW.pt (pw_or (pt_cmp (pc_dnotin hu (pv 5) (pv 0)) (by rfl)) (pw_or (pt_not (pt_val (pe_isi (by rfl) tx.isinstance_ (pe_dget hu (pv 0) (pv 5) (fun _ _ => rfl)) (pe_bltn (v := .ty "tuple") (by rfl) tx.tuple_ boot_tuple rfl)))) (pw_or1 (pt_cmpR op_ne (pe_len (by rfl) tx.len_ (pe_dget hu (pv 0) (pv 5) (fun _ _ => rfl))) pe_int (nomark _)))))) (pss_one (ps_ret pe_bl)) pss_nil)
      (pss_cons (ps_asg (pe_dget hu (pv 0) (pv 5) (fun _ _ => rfl)) (pg_tup rfl (pgs_cons (pg_name (i := 7) sc_right.nd rfl (by first | exact .inl rfl | exact .inr rfl)) (pgs_cons (pg_name (i := 8) sc_right.nd rfl (by first | exact .inl rfl | exact .inr rfl)) pgs_nil))))
      (pss_cons (ps_if (PW.pt (pw_or (pt_not (pt_val (pe_isi (by rfl) tx.isinstance_ (pv 7) (pe_bltn (v := .ty "list") (by rfl) tx.list_ boot_list rfl)))) (pw_or1 (pt_cmpR op_ne (pe_len (by rfl) tx.len_ (pv 7)) (pe_len (by rfl) tx.len_ (pv 6)) (nomark _))))) (pss_one (ps_ret pe_bl)) pss_nil)
      (pss_cons (ps_forR PassesOwn.never rfl (by rfl) tx.range_ (pe_len (by rfl) tx.len_ (pv 6)) (pg_name (i := 3) sc_right.nd rfl (by first | exact .inl rfl | exact .inr rfl)) (pss_one (ps_if (pt_not (pt_val (pe_cl d_rule_right (hr.mono (by omega)) (pa_cons (pe_il (pv 7) (pv 3)) (pa_cons (pe_op op_add (pe_il (pv 6) (pv 3)) pe_int) (pa_cons (pe_tc (n := 0) (pe_il (pv 1) (pe_il (pv 6) (pv 3)))) (pa_cons (pe_tc (n := 1) (pe_il (pv 1) (pe_il (pv 6) (pv 3)))) pa_nil))))))) (pss_one (ps_ret pe_bl)) pss_nil)))
      (pss_one (ps_if (PW.pt (pw_or (pt_not (pt_val (pe_isi (by rfl) tx.isinstance_ (pv 8) (pe_bltn (v := .ty "tuple") (by rfl) tx.tuple_ boot_tuple rfl)))) (pw_or1 (pt_cmpR (op_neSw (hu8 hr)) (pv 8) (pe_cl d_switch (hr.mono (by omega)) (pa_cons (lcL (x1 := "_law_k") (i := 3) rfl sc_right.nd (pv 6) (blkOk_by (own := [("_law_k", 3)]) (N := N_right) (sc := defScope s_right) (by decide +kernel)) (fun _ _ _ _ _ => pg_name (i := 3) sc_right.nd rfl (Or.inl rfl)) (fun _ _ _ _ _ => (pe_tc (n := 0) (pe_il (pv 1) (pv 3))))).pe pa_nil)) (nomark _))))) (pss_one (ps_ret pe_bl)) pss_nil))))))))
      (pss_one (ps_ret pe_bl)))))), ?_⟩
    walk_at "go"
    intro q H1 n1 k1 h1
    have ps0 : PL H H1 q (wsOf (rs.take 0)) (fun _ => 0) (rs.take 0) :=
      { kp := k1, qf := n1, d := h1, at_ := fun k hk => (by simp [wsOf] at hk), fr := fun k hk => (by simp [wsOf] at hk), inj := fun k hk => (by simp [wsOf] at hk), e := fun k _ => rfl }
    refine ⟨_, rfl, a, xs, rfl, .inl (k1.obj0 ha), xs.length, rfl, by omega, ⟨⟨fun m σ H' => ∃ A o3 o4, PL H H' q (wsOf (rs.take m)) A (rs.take m) ∧ σ = [some (.ref pf), some (.ref a), some (.ref q), o3, o4, none, none, none, none],
      ⟨_, _, _, ps0, rfl⟩, ?_, ?_⟩⟩⟩
    · rintro m σ H2 hm ⟨A, o3, o4, ps, rfl⟩
      have hm : m < rs.length := by rw [← hxl]; exact hm
      obtain ⟨r, hr1⟩ : ∃ r, rs[m]? = some r := ⟨_, List.getElem?_eq_getElem hm⟩
      obtain ⟨y, hy, hRA⟩ := hR.get hr1
      have hro := hok r (List.mem_of_getElem? hr1)
      have hR2 := hRA.kp ps.kp
      obtain ⟨ar, hv, br, gvs, rfl, har, hbr, hh, hg⟩ := id hR2
      obtain ⟨s0, ks0, e0, _⟩ := hro.hd
      rw [e0] at hh
      obtain ⟨ah, bh, vk, rfl, hah, hbh, hk⟩ := id hh
      have hkl := hk.len
      have ha2 := ps.kp.obj0 ha
      have etk : rs.take (m + 1) = rs.take m ++ [r] := by rw [List.take_add_one, hr1]; rfl
      have htl : (rs.take m).length = m := by rw [List.length_take]; omega
      have hwl := len_wsOf (rs.take m)
      have hd2 := ps.d
      refine ⟨_, rfl, _, rfl, a, xs, m, _, rfl, rfl, ha2, hy, ar, _, _, rfl, har, rfl, ?_⟩
      walk_at "go"
      intro pw H3 n3 k3 h3
      have hpw : H3 pw = some (.tup ((wOf r).map kV)) := by
        rw [h3, hkl]; unfold wOf; rw [e0]; rfl
      have ps3 := ps.keep k3
      have hd3 := ps3.d
      walk_at "go"
      intro p4 H4 n4 k4 h4
      have ps4 := ps3.keep k4
      have fin : ∀ H5 A5, PL H H5 q (adg (wsOf (rs.take m)) (wOf r)) A5 (rs.take m) → 
          ∃ l xs0, V.ref (A5 (wOf r)) = .ref l ∧ H5 l = some (.lst xs0) ∧ ∃ v, ([some (.ref pf), some (.ref a), some (.ref q), some (.int (m : Nat)), some (.ref ah), none, none, none, none] : L2.St)[3]? = some (some v) ∧ ∃ xs1, H5 l = some (.lst xs1) ∧ xs1.length ≤ 100000 ∧ Wr H5 l (.lst (xs1 ++ [v])) fun H6 => ∃ A o3 o4, PL H H6 q (wsOf (rs.take (m + 1))) A (rs.take (m + 1)) ∧ ([some (.ref pf), some (.ref a), some (.ref q), some (.int (m : Nat)), some (.ref ah), none, none, none, none] : L2.St) = [some (.ref pf), some (.ref a), some (.ref q), o3, o4, none, none, none, none] := by
        intro H5 A5 ps5
        have hmem : wOf r ∈ adg (wsOf (rs.take m)) (wOf r) := by rw [mem_adg]; exact .inr rfl
        have hat := ps5.at_ _ hmem
        refine ⟨_, _, rfl, hat, _, rfl, _, hat, ?_, fun H6 k6 h6 => ⟨A5, _, _, ?_, rfl⟩⟩
        · unfold plc
          rw [List.length_map]
          have := sel_len (wOf r) (rs.take m) 0
          omega
        · rw [etk, wsOf_snoc]
          exact ps5.app hmem k6 (by rw [h6, htl])
      refine ⟨pw, _, wOf r, rfl, ps4.d, k4.tup hpw, by rw [List.length_map]; omega, fun v hv => ?_, fun hn H5 k5 h5 => ?_⟩
      · rw [valV_mapF] at hv
        by_cases hin : wOf r ∈ wsOf (rs.take m)
        · rw [if_pos hin] at hv
          injection hv with hv
          subst hv
          have e : adg (wsOf (rs.take m)) (wOf r) = wsOf (rs.take m) := by unfold adg; rw [if_pos hin]
          exact fin H4 A (by rw [e]; exact ps4)
        · rw [if_neg hin] at hv; cases hv
      · rw [valV_mapF] at hn
        by_cases hin : wOf r ∈ wsOf (rs.take m)
        · rw [if_pos hin] at hn; cases hn
        · obtain ⟨A', e1, s'⟩ := ps3.new hin n4 k4 h4 k5 h5
          have := fin H5 A' s'
          rw [e1] at this
          exact this
    · rintro σ H2 ⟨A, o3, o4, ps, rfl⟩
      rw [hxl, List.take_length] at ps
      have hf2 := ps.kp.obj0 hf
      have hd2 := ps.d
      refine ⟨_, rfl, "dict", true, .dT hf2, by decide +kernel, _, rfl, iteF ?_⟩
      refine ⟨_, rfl, pf, _, rfl, hf2, _, rfl, q, _, rfl, hd2, rfl, _, rfl, itF (by simp) ?_⟩
      refine ⟨q, _, rfl, hd2, fun od H3 k3 h3 => ⟨⟨fun j σ H' => ∃ o3 o4 o5 o6 o7 o8, Kp [q] H2 H' ∧ H' q = some (.frz od (.dT ((wsOf rs).map fun k => (k, .ref (A k))))) ∧ σ = [some (.ref pf), some (.ref a), some (.ref q), o3, o4, o5, o6, o7, o8],
        ⟨_, _, _, _, _, _, k3, h3, rfl⟩, ?_, ?_, ?_⟩⟩⟩
      · rintro j σ H' ⟨o3, o4, o5, o6, o7, o8, e1, e2, rfl⟩
        exact e2
      · rintro j k v kq σ H4 hkv hkq ⟨o3, o4, o5, o6, o7, o8, e1, e2, rfl⟩
        rw [List.getElem?_map] at hkv
        obtain ⟨k', hk1, hk2⟩ := Option.map_eq_some_iff.mp hkv
        obtain ⟨rfl, rfl⟩ := Prod.mk.inj hk2
        have hin := List.mem_of_getElem? hk1
        have k04 : Kp [] H H4 := ((ps.kp.any [q]).trans e1).one rfl ps.qf
        have nAq : A k' ≠ q := fun e => by
          have h1 := ps.at_ _ hin
          rw [e, hd2] at h1; cases h1
        have hat := e1.obj1 (ps.at_ _ hin) nAq
        obtain ⟨c, sw, cs, g1, g2, g3, g4⟩ := hfd k' hin
        have hf4 := k04.obj0 hf
        have ha4 := k04.obj0 ha
        have hF4 := k04.tup g1
        have hc4 := k04.obj0 g2
        have hco4 : Codes H4 [] cs (sel k' 0 rs) := Codes.keep k04 (fun a z => by cases z) (fun a z => by cases z) g3
        have hsw4 := g4.keep k04 (fun a z => by cases z)
        have hcl := hco4.len
        have hsl := sel_len k' rs 0
        have hget : valV ((wsOf rs).map fun k => (k, V.ref (F k))) k' = some (.ref (F k')) := by rw [valV_mapF, if_pos hin]
        have hgetA : valV ((wsOf rs).map fun k => (k, V.ref (A k))) k' = some (.ref (A k')) := by rw [valV_mapF, if_pos hin]
        have hpl : (plc k' rs).length = (sel k' 0 rs).length := by unfold plc; rw [List.length_map]
        refine ⟨_, rfl, _, rfl, q, .ref (A k'), rfl, .inr ⟨_, k', kq, .inr ⟨od, e2⟩, rfl, hkq, hgetA.symm⟩, ?_⟩
        refine ⟨_, rfl, _, rfl, pf, _, rfl, dgT hf4 hkq hget, _, rfl, iteF ?_⟩
        refine ⟨_, rfl, _, rfl, pf, _, rfl, dgT hf4 hkq hget, "tuple", true, .tup hF4, by decide +kernel, _, rfl, iteF ?_⟩
        refine ⟨_, rfl, _, rfl, pf, _, rfl, dgT hf4 hkq hget, F k', _, rfl, .inr hF4, rfl, _, rfl, itF rfl ?_⟩
        refine ⟨_, rfl, _, rfl, pf, _, rfl, dgT hf4 hkq hget, gtup2 hF4 ?_⟩
        refine ⟨_, rfl, "list", true, .lst hc4, by decide +kernel, _, rfl, iteF ?_⟩
        refine ⟨_, rfl, c, cs, rfl, .inl hc4, _, rfl, A k', _, rfl, .inl hat, rfl, _, rfl, itF (by rw [hcl, hpl]; simp) ?_⟩
        have hpll : (plc k' rs).length ≤ 1000000 := by omega
        refine ⟨_, rfl, A k', _, rfl, .inl hat, _, rfl, hpll, ⟨⟨fun m σ H' => ∃ o3, Kp [] H4 H' ∧ σ = [some (.ref pf), some (.ref a), some (.ref q), o3, o4, some (.ref kq), some (.ref (A k')), some (.ref c), some (.ref sw)],
          ⟨_, Kp.refl _ _, rfl⟩, ?_, ?_⟩⟩⟩
        · rintro m σ H5 hm ⟨o3, k5, rfl⟩
          have hm : m < (sel k' 0 rs).length := by rw [← hpl]; exact hm
          obtain ⟨p, hp⟩ : ∃ p, (sel k' 0 rs)[m]? = some p := ⟨_, List.getElem?_eq_getElem hm⟩
          obtain ⟨v, hv1, hv2⟩ := hco4.get hp
          obtain ⟨hp1, hp2, _, hp4⟩ := sel_mem (List.mem_of_getElem? hp)
          rw [Nat.sub_zero] at hp4
          obtain ⟨y, hy, hRA⟩ := hR.get hp4
          have hplm : (plc k' rs)[m]? = some (.int ((p.1 : Nat) : Int)) := by unfold plc; rw [List.getElem?_map, hp]; rfl
          have hRA5 := (hRA.kp k04).kp k5
          have hcode5 := hv2.keep (B' := []) k5 (fun a z => by cases z) (fun a z => by cases z)
          obtain ⟨ar, hv, br, gvs, rfl, har, hbr, hh, hg⟩ := hRA5
          have hc5 := k5.obj0 hc4
          have hat5 := k5.obj0 hat
          have ha5 := k5.obj0 ha4
          refine ⟨_, rfl, _, rfl, c, cs, m, v, rfl, rfl, hc5, hv1, _, rfl, _, rfl, A k', _, m, _, rfl, rfl, hat5, hplm, _, _, rfl, rfl, ?_⟩
          refine ⟨_, rfl, _, rfl, _, rfl, A k', _, m, _, rfl, rfl, hat5, hplm, a, xs, p.1, _, rfl, rfl, ha5, hy, ar, _, _, rfl, har, rfl, ?_⟩
          refine ⟨_, rfl, _, rfl, _, rfl, A k', _, m, _, rfl, rfl, hat5, hplm, a, xs, p.1, _, rfl, rfl, ha5, hy, ar, _, _, rfl, har, rfl, ?_⟩
          refine ⟨v, hv, _, br, gvs, p.2, rfl, hcode5, hh, hbr, hg, hok p.2 hp1, fun H6 k6 => ⟨_, rfl, iteF ⟨_, k5.trans k6, rfl⟩⟩⟩
        · rintro σ H5 ⟨o3, k5, rfl⟩
          have hsw5 := hsw4.keep k5 (fun a z => by cases z)
          obtain ⟨sq, _, hs1, hs2⟩ := id hsw5
          have hat5 := k5.obj0 hat
          have ha5 := k5.obj0 ha4
          have k05 := k04.trans k5
          refine ⟨_, rfl, "tuple", true, .tup hs1, by decide +kernel, _, rfl, iteF ?_⟩
          refine ⟨_, rfl, _, rfl, A k', _, rfl, hat5, [], _, LcOk.mk' (fun m ys H => TAs .str H ys (((sel k' 0 rs).take m).map fun (p : Nat × Rule) => p.2.1) ∧ m ≤ (sel k' 0 rs).length) (by omega) (by simp) ⟨trivial, Nat.zero_le _⟩ (fun m ys H H' D hD kk r k => ⟨r.1.kp k, r.2⟩) ?_ ?_ ?_, by simp⟩
          · rintro m ys H ⟨r, hm⟩
            rw [r.len, List.length_map, List.length_take]; omega
          · rintro m ys H6 hm kk ⟨r, hm2⟩ y hy
            have hm : m < (sel k' 0 rs).length := by rw [← hpl]; exact hm
            obtain ⟨p, hp⟩ : ∃ p, (sel k' 0 rs)[m]? = some p := ⟨_, List.getElem?_eq_getElem hm⟩
            obtain ⟨hp1, hp2, _, hp4⟩ := sel_mem (List.mem_of_getElem? hp)
            rw [Nat.sub_zero] at hp4
            obtain ⟨yr, hyr, hRA⟩ := hR.get hp4
            have hplm : (plc k' rs)[m]? = some (.int ((p.1 : Nat) : Int)) := by unfold plc; rw [List.getElem?_map, hp]; rfl
            have ey : y = .int ((p.1 : Nat) : Int) := by
              have hy : (plc k' rs)[m]? = some y := hy
              rw [hplm] at hy; exact (Option.some.inj hy).symm
            subst ey
            obtain ⟨ar, hv, br, gvs, rfl, har, hbr, hh, hg⟩ := (hRA.kp k05).kp kk
            refine ⟨_, rfl, _, rfl, a, xs, p.1, _, rfl, rfl, kk.obj0 ha5, hyr, ar, _, _, rfl, har, rfl, Kp.refl _ _, kk, ?_, by omega⟩
            rw [List.take_add_one, hp, List.map_append]
            exact TAs.append r ⟨hh, trivial⟩
          · rintro ys H6 p6 np kk ⟨r, _⟩ e6
            rw [hpl, List.take_length] at r
            refine ⟨p6, ys, _, rfl, e6, r, fun t ht => ?_, by rw [List.length_map]; omega, fun p7 H7 hsw7 k7 => ?_⟩
            · obtain ⟨p, hp, rfl⟩ := List.mem_map.mp ht
              have ho := hok p.2 (sel_mem hp).1
              obtain ⟨s0, ks0, e0, _⟩ := ho.hd
              exact ⟨⟨s0, ks0, e0⟩, ho.ok⟩
            · rw [List.map_map] at hsw7
              change SwAt H7 [] p7 ((sel k' 0 rs).map fun p => kOf p.2.1) at hsw7
              obtain ⟨sq7, _, ht1, ht2⟩ := hsw7
              have k57 := kk.trans k7
              refine ⟨sw, p7, sq, sq7, _, _, _, _, rfl, rfl, k57.tup hs1, ht1, k57.obj0 hs2, ht2, rfl, fun pr hpr => ?_, _, rfl, iteF ?_⟩
              · obtain ⟨kk', hkk, rfl⟩ := List.mem_map.mp hpr
                exact ⟨_, rfl, by rw [valV_mapF]; exact if_pos hkk⟩
              · exact ⟨_, _, _, _, _, _, e1.trans ((k5.trans k57).any _), (k5.trans k57).kb _ _ e2 (by simp), rfl⟩
      · rintro σ H4 ⟨o3, o4, o5, o6, o7, o8, e1, e2, rfl⟩
        intro H5 k5 h5
        exact h H5 (((ps.kp.any [q]).trans (e1.trans k5)).one rfl ps.qf)
end
end GT
/-! GuE: law. -/
namespace GT
open PySem L2 GL PyProof.Rows RT
/-! tactics: a fact of the heap by what was kept; the reading's small steps -/
local macro_rules | `(tactic| walk_at "hp") => `(tactic| first | assumption | (refine Kp.tup (by assumption) ?_; walk_at "hp") | (refine Kp.obj0 (by assumption) ?_; walk_at "hp") | (refine Kp.obj1 (by assumption) ?_ (by first | assumption | (apply Ne.symm; assumption)); walk_at "hp"))
local macro_rules | `(tactic| walk_at "kp") => `(tactic| first | assumption | exact Kp.refl _ _ | (refine Kp.trans ?_ (Kp.wk (by assumption) (by simp)); walk_at "kp"))
local macro_rules | `(tactic| walk_at "nn") => `(tactic| first | assumption | (refine Kp.fr (by assumption) _ ?_; walk_at "nn"))
local macro_rules | `(tactic| walk_at "go") => `(tactic| repeat (first | (refine And.intro ?_ ?_; (first | rfl | walk_at "hp" | decide | (refine Or.inl ?_; walk_at "hp") | (refine Or.inr ?_; walk_at "hp") | (refine SqL.of ?_; walk_at "hp") | exact Nat.le_of_ble_eq_true rfl | exact kvS _ | exact kvI _ | exact cmulL rfl | exact cmulR rfl | exact cpw rfl | exact cdv rfl | exact Ty.int _ | exact Ty.str _ | exact Ty.bl _ | exact Ty.lst (by walk_at "hp") | exact Ty.tup (by walk_at "hp") | walk_at "kp" | omega | (dsimp only; first | decide | omega))) | apply Exists.intro))

def ruleD (r : Rule) : PyData := .tuple [r.1.toD, .tuple (toWs .str r.2)]
theorem depth_goals : ∀ ts : List GT.T, (∀ t ∈ ts, t.size ≤ 24) → PyData.depthAll (toWs .str ts) ≤ 48
  | [], _ => by simp [toWs, PyData.depthAll]
  | t :: r, h => by
    have h1 := T.depth_le .str (fun x => rfl) t
    have h2 := h t List.mem_cons_self
    have h3 := depth_goals r fun u hu => h u (List.mem_cons_of_mem _ hu)
    simp only [toWs, PyData.depthAll]; omega
theorem rule_lay {r : Rule} (h : ROk r) : (ruleD r).canLay0 = true ∧ (ruleD r).depth ≤ 55 := by
  have h1 := T.lay .str (fun x hx => hx) r.1 h.ok
  have h2 := lays .str (fun x hx => hx) r.2 h.goks
  have h3 : (r.1.toD).depth ≤ 2 * r.1.size := T.depth_le .str (fun x => rfl) r.1
  have h4 := depth_goals r.2 h.gsz
  have h5 := h.sz
  refine ⟨?_, ?_⟩
  · show ((r.1.toD).canLay0 && ((PyData.canLayAll0 (toWs .str r.2)) && true)) = true
    rw [h1, h2]; rfl
  · simp only [ruleD, PyData.depth, PyData.depthAll]; omega
theorem rules_lay : ∀ rs : List Rule, (∀ r ∈ rs, ROk r) → PyData.canLayAll0 (rs.map ruleD) = true ∧ PyData.depthAll (rs.map ruleD) ≤ 55
  | [], _ => ⟨rfl, by simp [PyData.depthAll]⟩
  | r :: rs, h => by
    obtain ⟨h1, h2⟩ := rule_lay (h r List.mem_cons_self)
    obtain ⟨h3, h4⟩ := rules_lay rs fun u hu => h u (List.mem_cons_of_mem _ hu)
    refine ⟨?_, ?_⟩
    · show ((ruleD r).canLay0 && PyData.canLayAll0 (rs.map ruleD)) = true
      rw [h1, h3]; rfl
    · simp only [List.map_cons, PyData.depthAll]; omega
theorem RA.dp {K : PySem.W.Frag} {H : Hp} {v : V} {r : Rule} (h : RA H v r) : Dp K H v (ruleD r) := by
  obtain ⟨a, hv, b, gvs, rfl, h1, h2, h3, h4⟩ := h
  exact .tup (SqT.of h1) (.cons (TA.dp (g := PyData.str) (fun x => .str x) _ _ h3) (.cons (.tup (SqT.of h2) (TAs.dp (g := PyData.str) (fun x => .str x) _ _ h4)) .nil))
theorem RAs.dp {K : PySem.W.Frag} {H : Hp} : ∀ {vs : List V} {rs : List Rule}, RAs H vs rs → DpAll K H vs (rs.map ruleD)
  | [], [], _ => .nil
  | v :: vs, r :: rs, ⟨h1, h2⟩ => .cons h1.dp (RAs.dp h2)
  | [], _ :: _, h => False.elim h
  | _ :: _, [], h => False.elim h
theorem Found.keep {H H' : Hp} {p : Addr} {rs : List Rule} (h : Found H p rs) (k : Kp [] H H') : Found H' p rs := by
  obtain ⟨F, h1, h2⟩ := h
  refine ⟨F, k.obj0 h1, fun z hz => ?_⟩
  obtain ⟨c, sw, cs, g1, g2, g3, g4⟩ := h2 z hz
  exact ⟨c, sw, cs, k.tup g1, k.obj0 g2, Codes.keep k (fun a z => by cases z) (fun a z => by cases z) g3, g4.keep k (fun a z => by cases z)⟩
/-- a list whose first thing is a code -/
def CodeL (H : Hp) (c : Addr) (m : Nat) : Prop := ∃ cs b i n' r, H c = some (.lst cs) ∧ cs.length ≤ m ∧ cs[0]? = some (.ref b) ∧ H b = some (.tup [.int i, .int n', .ref r])
section
variable {P : Program} {w : World} {K : PySem.W.Frag} {mg : Str → Option Value} {base : Heap} {C d : Addr} {es : Array DictEntry} {n : Nat} {k : Nat}
abbrev s_law : Stmt := (topS 41)
abbrev N_law : List Str := ["_law_script", "_law_rules_here", "_law_stored", "_law_found", "_law_word"]
theorem sc_law : FnScope N_law ["_law_script"] (defScope s_law) := ⟨rfl, rfl, rfl, by decide +kernel, rfl, by decide +kernel, by decide +kernel⟩

def spLaw (K : PySem.W.Frag) : Sp := fun vs H Q _ => ∃ (a : Addr) (is : List Int), vs = [.ref a] ∧ SqL K H a (is.map .int) ∧ ∀ H', Q (.bl true) H'
theorem ok_law' {fl : Addr} {fdl : FuncData} (tx : Txt K w mg C d es n) (d_rules : Def P w K mg base "_law_rules" k ["_law_script"] (spRules K)) (d_code_of : Def P w K mg base "code_of" k ["rules"] spCodeOf) (d_right : Def P w K mg base "_law_right" k ["_law_found", "_law_rules_here"] spRight) (FL : Fun K "law" "law" s_law fl fdl) : FnOk P w K mg base CX0 (k + 1) fl fdl ["_law_script"] (spLaw K) := by
  refine FL.ok sc_law (fun vs H Q E h => ?_) (fun cdv A outer s H vs Q E hr h => ?_)
  · obtain ⟨a, is, rfl, _⟩ := h; rfl
  · obtain ⟨a, is, rfl, hs, h⟩ := h
    have hu := hu_of hr
    refine ⟨_, (pss_cons (ps_set (i := 1) sc_law.nd rfl (by first | exact .inl rfl | exact .inr rfl) (pe_cl d_rules (hr.mono (by omega)) (pa_cons (pv 0) pa_nil)))
      (pss_cons (ps_set (i := 2) sc_law.nd rfl (by first | exact .inl rfl | exact .inr rfl) (pe_list (by rfl) tx.list_ (pv 1)))
      (pss_cons (ps_set (i := 3) sc_law.nd rfl (by first | exact .inl rfl | exact .inr rfl) (pe_cl d_code_of (hr.mono (by omega)) (pa_cons (pv 1) pa_nil)))
      (pss_cons (ps_if (PW.pt (pw_or (pt_not (pt_val (pe_cl d_right (hr.mono (by omega)) (pa_cons (pv 3) (pa_cons (pv 2) pa_nil))))) (pw_or1 (pt_cmpR (op_neD hr.units) (pv 1) (pv 2) (nomark _))))) (pss_one (ps_ret pe_bl)) pss_nil)
      (pss_cons (ps_forL PassesOwn.never rfl (pe_listT rfl (by rfl) tx.list_ (pv 3)) (pg_name (i := 4) sc_law.nd rfl (by first | exact .inl rfl | exact .inr rfl)) (pss_one (ps_expr (pe_app (pe_tc (n := 0) (pe_dget hu (pv 3) (pv 4) (fun _ _ => rfl))) (pe_tupN (pa_cons pe_int (pa_cons pe_int (pa_cons (pe_lstN pa_nil) pa_nil))))))))
      (pss_cons (ps_expr (pe_reverse (pv 1)))
      (pss_one (ps_ret (pe_and (pe_cl d_right (hr.mono (by omega)) (pa_cons (pe_cl d_code_of (hr.mono (by omega)) (pa_cons (pv 1) pa_nil)) (pa_cons (pe_revLN (pv 2)) pa_nil))) (pe_one (pe_cl d_right (hr.mono (by omega)) (pa_cons (pe_cl d_code_of (hr.mono (by omega)) (pa_cons (pv 2) pa_nil)) (pa_cons (pv 2) pa_nil))))))))))))), ?_⟩
    refine ⟨_, rfl, a, is, rfl, hs, fun p vs rs H1 h1 hR hok hl k1 => ?_⟩
    have hvl := hR.len
    walk_at "go"
    intro ps H2 n2 k2 h2
    have h12 := k2.obj0 h1
    have hR2 := RAs.kp k2 hR
    refine ⟨_, rfl, p, vs, rs, rfl, h12, hR2, hok, hl, fun pf H3 hf k3 => ?_⟩
    refine ⟨_, rfl, _, rfl, pf, ps, vs, rs, rfl, hf, k3.obj0 h2, RAs.kp k3 hR2, hok, hl, fun H4 k4 => ⟨_, rfl, iteF ?_⟩⟩
    have k24 := k3.trans k4
    have hp4 := k24.obj0 h12
    have hs4 := k24.obj0 h2
    have hR4 := RAs.kp k24 hR2
    have hf4 := hf.keep k4
    have hsh : SeqAt.shaped (.list (rs.map ruleD)) = true := shaped_list (rules_lay rs hok).1 (Nat.le_trans (rules_lay rs hok).2 (by decide))
    refine ⟨_, rfl, _, rfl, _, _, .lst (SqL.of hp4) hR4.dp, .lst (SqL.of hs4) hR4.dp, hsh, hsh, _, rfl, itF (by rw [eqv_same hsh]; rfl) ?_⟩
    obtain ⟨F, hfd, hfk⟩ := hf4
    refine ⟨_, rfl, pf, _, rfl, hfd, fun bs hbs pl H5 n5 k5 h5 => ?_⟩
    have hkeys : ∀ j b, bs[j]? = some b → ∃ k : KK, (wsOf rs)[j]? = some k ∧ H4 b = some (.tup (k.map kV)) := fun j b hb => by
      obtain ⟨kv, e1, e2⟩ := GL.pgetR hbs hb
      rw [List.getElem?_map] at e1
      obtain ⟨k, e3, e4⟩ := Option.map_eq_some_iff.mp e1
      subst e4
      exact ⟨k, e3, e2⟩
    have hbl : bs.length = (wsOf rs).length := by
      have := hbs.length
      simpa using this.symm
    have hwl := len_wsOf rs
    have fin : ∀ (S : List Addr) (H6 : Hp) (o4 : Option V), Kp S H4 H6 → H6 p = some (.lst vs) → H6 ps = some (.lst vs) → p ≠ ps →
        tSeq (tDrop (uReverse (tVar 1))) (tRet (tAndV (uCall spRight (tCons (uCall spCodeOf (tCons (tVar 1) tNil)) (tCons (uRevL (tVar 2)) tNil))) (uCall spRight (tCons (uCall spCodeOf (tCons (tVar 2) tNil)) (tCons (tVar 2) tNil)))))
          { nx := fun _ H' => Q .non H', rt := Q } [some (.ref a), some (.ref p), some (.ref ps), some (.ref pf), o4] H6 := by
      intro S H6 o4 k6 hp6 hs6 hne
      have hR6 := RAs.kp k6 hR4
      refine ⟨_, rfl, p, vs, rfl, hp6, fun H7 k7 h7 => ?_⟩
      have hs7 := k7.obj1 hs6 (Ne.symm hne)
      have hR7 := RAs.kp k7 hR6
      have hokr : ∀ r ∈ rs.reverse, ROk r := fun r hr => hok r (List.mem_reverse.mp hr)
      refine ⟨_, rfl, p, vs.reverse, rs.reverse, rfl, h7, hR7.rev, hokr, by rw [List.length_reverse]; exact hl, fun pf8 H8 hf8 k8 => ?_⟩
      refine ⟨_, rfl, ps, vs, rfl, k8.obj0 hs7, fun p9 H9 n9 k9 h9 => ?_⟩
      refine ⟨pf8, p9, vs.reverse, rs.reverse, rfl, hf8.keep k9, h9, RAs.kp (k8.trans k9) hR7.rev, hokr, by rw [List.length_reverse]; exact hl, fun H10 k10 => ⟨_, rfl, iteT ?_⟩⟩
      have k7_10 := (k8.trans k9).trans k10
      have hs10 := k7_10.obj0 hs7
      have hR10 := RAs.kp k7_10 hR7
      refine ⟨_, rfl, ps, vs, rs, rfl, hs10, hR10, hok, hl, fun pf11 H11 hf11 k11 => ?_⟩
      refine ⟨_, rfl, pf11, ps, vs, rs, rfl, hf11, k11.obj0 hs10, RAs.kp k11 hR10, hok, hl, fun H12 k12 => h H12⟩
    have hpps : p ≠ ps := fun e => by rw [e] at h1; rw [h1] at n2; cases n2
    have hcl0 : ∀ k ∈ wsOf rs, ∃ c sw, H4 (F k) = some (.tup [.ref c, .ref sw]) ∧ CodeL H4 c 40 := by
      intro k hk
      obtain ⟨c, sw, cs, g1, g2, g3, _⟩ := hfk k hk
      have hsl := sel_len k rs 0
      have hcl := g3.len
      obtain ⟨r, hr, hwr⟩ := (mem_wsOf rs k).mp hk
      cases hsel : sel k 0 rs with
      | nil =>
        exfalso
        have : ∀ (l : List Rule) (i : Nat), r ∈ l → sel k i l ≠ [] := by
          intro l
          induction l with
          | nil => intro i h; cases h
          | cons x l ih =>
            intro i hm
            unfold sel
            by_cases e : wOf x = k
            · rw [if_pos e]; intro z; cases z
            · rw [if_neg e]
              rcases List.mem_cons.mp hm with hm | hm
              · subst hm; exact absurd hwr e
              · exact ih _ hm
        exact this rs 0 hr hsel
      | cons p0 l =>
        rw [hsel] at g3 hcl
        cases cs with
        | nil => exact False.elim g3
        | cons v0 cs =>
          obtain ⟨⟨b, aro, xs, rr, e1, e2, _⟩, _⟩ := g3
          subst e1
          refine ⟨c, sw, g1, _, b, _, _, _, g2, ?_, rfl, e2⟩
          rw [hcl, ← hsel]; omega
    refine ⟨pl, bs.map V.ref, rfl, ⟨⟨fun j σ H' => ∃ S o4, Kp S H4 H' ∧ H' p = some (.lst vs) ∧ H' ps = some (.lst vs) ∧ H' pl = some (.lst (bs.map V.ref)) ∧ H' pf = some (.dT ((wsOf rs).map fun k => (k, .ref (F k)))) ∧ (∀ k ∈ wsOf rs, ∃ c sw, H' (F k) = some (.tup [.ref c, .ref sw]) ∧ CodeL H' c (40 + j)) ∧
      σ = [some (.ref a), some (.ref p), some (.ref ps), some (.ref pf), o4], ?_, ?_, ?_, ?_⟩⟩⟩
    · refine ⟨[], _, k5, k5.obj0 hp4, k5.obj0 hs4, h5, k5.obj0 hfd, fun k hk => ?_, rfl⟩
      obtain ⟨c, sw, e1, cs, b, i, n', r, g1, g2, g3, g4⟩ := hcl0 k hk
      exact ⟨c, sw, k5.tup e1, cs, b, i, n', r, k5.obj0 g1, g2, g3, k5.tup g4⟩
    · rintro j σ H' ⟨S, o4, e1, e2, e3, e4, e5, e6, rfl⟩
      exact e4
    · rintro j y σ H6 hy ⟨S, o4, e1, e2, e3, e4, e5, e6, rfl⟩
      rw [List.getElem?_map] at hy
      obtain ⟨b, hb3, rfl⟩ := Option.map_eq_some_iff.mp hy
      obtain ⟨k', hk1, hk2⟩ := hkeys j b hb3
      have hin := List.mem_of_getElem? hk1
      have hjl : j < (wsOf rs).length := (List.getElem?_eq_some_iff.mp hk1).1
      have hb6 : H6 b = some (.tup (k'.map kV)) := e1.tup hk2
      obtain ⟨c, sw, g0, cs, bc, i, n', r, g1, g2, g3, g4⟩ := e6 k' hin
      have hget : valV ((wsOf rs).map fun k => (k, V.ref (F k))) k' = some (.ref (F k')) := by rw [valV_mapF, if_pos hin]
      have hcslen : cs.length ≤ 100000 := by omega
      refine ⟨_, rfl, _, rfl, pf, .ref (F k'), rfl, dgT e5 hb6 hget, F k', _, _, rfl, g0, rfl, c, cs, rfl, g1, ?_⟩
      walk_at "go"
      intro p7 H7 n7 k7 h7
      walk_at "go"
      intro p8 H8 n8 k8 h8
      have g18 := k8.obj0 (k7.obj0 g1)
      have k68 := k7.trans k8
      refine ⟨cs, g18, hcslen, fun H9 k9 h9 => ?_⟩
      have hcp : ∀ (x : Addr) (zs : List V), H8 x = some (.lst zs) → (∀ z b', zs[0]? = some z → z = .ref b' → ∀ i n' r, H8 b' ≠ some (.tup [.int i, .int n', .ref r])) → x ≠ c := by
        intro x zs hx hz e
        rw [e, g18] at hx
        injection hx with hx; injection hx with hx
        rw [← hx] at hz
        exact hz _ bc g3 rfl i n' r (k68.tup g4)
      have hR8 := RAs.kp k68 (RAs.kp e1 hR4)
      have hvs : ∀ z b', vs[0]? = some z → z = .ref b' → ∀ i n' r, H8 b' ≠ some (.tup [.int i, .int n', .ref r]) := by
        intro z b' hz ez i n' r hb'
        match vs, rs, hR8 with
        | v :: _, r0 :: _, ⟨⟨ar, hv, br, gvs, q1, q2, _, q3, _⟩, _⟩ =>
          cases hz
          rw [q1] at ez
          injection ez with ez
          rw [ez, hb'] at q2
          injection q2 with q2; injection q2 with q2; injection q2 with q2 q4
          injection q4 with q4 q5
          cases q5
        | [], _, _ => simp at hz
      have hbsz : ∀ z b', (bs.map V.ref)[0]? = some z → z = .ref b' → ∀ i n' r, H8 b' ≠ some (.tup [.int i, .int n', .ref r]) := by
        intro z b' hz ez i n' r hb'
        rw [List.getElem?_map] at hz
        obtain ⟨b0, hb0, rfl⟩ := Option.map_eq_some_iff.mp hz
        injection ez with ez
        subst ez
        obtain ⟨k0, hk0, hk0'⟩ := hkeys 0 b0 hb0
        have := k68.tup (e1.tup hk0')
        rw [this] at hb'
        injection hb' with hb'; injection hb' with hb'
        have hl9 : k0.length = 3 := by simpa using congrArg List.length hb'
        match k0, hl9, hb' with
        | [x1, x2, x3], _, hb' =>
          injection hb' with q1 q2
          injection q2 with q2 q3
          injection q3 with q3 q4
          cases x3 <;> cases q3
      have np := hcp p vs (k68.obj0 e2) hvs
      have nps := hcp ps vs (k68.obj0 e3) hvs
      have npl := hcp pl _ (k68.obj0 e4) hbsz
      have npf : pf ≠ c := fun e => by have := k68.obj0 e5; rw [e, g18] at this; cases this
      refine ⟨c :: S, _, ((e1.wk (fun x hx => List.mem_cons_of_mem _ hx)).trans (k68.any _)).trans (k9.wk (by simp)), k9.obj1 (k68.obj0 e2) np, k9.obj1 (k68.obj0 e3) nps, k9.obj1 (k68.obj0 e4) npl, k9.obj1 (k68.obj0 e5) npf, fun k hk => ?_, rfl⟩
      obtain ⟨c2, sw2, f0, cs2, bc2, i2, n2', r2, f1, f2, f3, f4⟩ := e6 k hk
      refine ⟨c2, sw2, k9.tup (k68.tup f0), ?_⟩
      by_cases ec : c2 = c
      · subst ec
        refine ⟨_, bc, i, n', r, h9, ?_, ?_, k9.tup (k68.tup g4)⟩
        · rw [List.length_append, List.length_singleton]; omega
        · rw [List.getElem?_append_left (List.getElem?_eq_some_iff.mp g3).1]; exact g3
      · exact ⟨cs2, bc2, i2, n2', r2, k9.obj1 (k68.obj0 f1) ec, by omega, f3, k9.tup (k68.tup f4)⟩
    · rintro σ H6 ⟨S, o4, e1, e2, e3, e4, e5, e6, rfl⟩
      exact fin S H6 o4 e1 e2 e3 hpps
end
end GT
/-! GuF: the join. -/
namespace GT
open PySem L2 GL PyProof.Rows RT
theorem defAt' {K : PySem.W.Frag} {h : Heap} {mg : Str → Option Value} (X : K.In h) (G : h.Ns mainGlobals mg) {x : Str} {st : Stmt} {f : Addr} {od an : Option Addr} {sl : Array (Option Value)} {oc kV dc pm cd ct : Value} {ps : List Str}
  (a : PySem.W.nsIn K mainGlobals x = some (some (.ref f))) (l : K.lookup f = some ⟨oc, od, .func (PySem.W.fnOf x x (defArgs st) (defBody st) (defScope st) .none kV dc pm an cd ct), sl⟩) (c : PySem.W.codeIn K cd x = true) (k : PySem.W.keepIn K (.ref f) = true)
  (b : ∀ (kV doc pm : Value) (an : Option Addr) (cdv ct : Value) (us : List Value), us.length = ps.length → bindArgs (PySem.W.fnOf x x (defArgs st) (defBody st) (defScope st) .none kV doc pm an cdv ct) ⟨us, []⟩ = pure (ps.zip us)) : DefAt K mg x st ps :=
  ⟨f, _, fun_mk (st := st) l c k, PySem.W.mg_of X G a, (fun_mk (st := st) l c k).binds b⟩
theorem mAt' {K : PySem.W.Frag} {C : Addr} {m q : Str} {st : Stmt} {f : Addr} {od an : Option Addr} {sl : Array (Option Value)} {oc kV dc pm cd ct : Value} {ps : List Str}
  (a : PySem.W.findIn K (.ref C) m = some (some (.ref f))) (i : PySem.W.isFn K (.ref f) = true) (l : K.lookup f = some ⟨oc, od, .func (PySem.W.fnOf m q (defArgs st) (defBody st) (defScope st) .none kV dc pm an cd ct), sl⟩) (c : PySem.W.codeIn K cd q = true) (k : PySem.W.keepIn K (.ref f) = true)
  (b : ∀ (kV doc pm : Value) (an : Option Addr) (cdv ct : Value) (us : List Value), us.length = ps.length → bindArgs (PySem.W.fnOf m q (defArgs st) (defBody st) (defScope st) .none kV doc pm an cdv ct) ⟨us, []⟩ = pure (ps.zip us)) : MAt K C m q st ps :=
  ⟨f, _, fun_mk (st := st) l c k, ⟨a, i, k⟩, (fun_mk (st := st) l c k).binds b⟩
section
variable {P : Program} {w : World} {K : PySem.W.Frag} {mg : Str → Option Value} {base : Heap} {x m q : Str} {C : Addr} {st : Stmt} {N ps : List Str} {k : Nat} {sp : Sp}
theorem DefAt.zero (D : DefAt K mg x st ps) (S : FnScope N ps (defScope st)) (no : ∀ vs H Q E, ¬ sp vs H Q E) : Def P w K mg base x 1 ps sp := D.ok S (fun vs H Q E h => absurd h (no vs H Q E)) (fun _ _ _ _ _ H vs Q E _ h => absurd h (no vs H Q E))
theorem MAt.zero (D : MAt K C m q st ps) (S : FnScope N ps (defScope st)) (no : ∀ vs H Q E, ¬ sp vs H Q E) : MDef P w K mg base C m 1 ps sp := D.ok S (fun vs H Q E h => absurd h (no vs H Q E)) (fun _ _ _ _ _ H vs Q E _ h => absurd h (no vs H Q E))
theorem MDef.mk' (D : MDef P w K mg base C "__init__" k ps sp) (hm : mg x = some (.ref C)) (mk : PySem.W.makesIn K C = true) (kc : PySem.W.keepIn K (.ref C) = true) : MkDef P w K mg base x C k ps sp := by
  obtain ⟨f, fd, M, b, F⟩ := D.ex
  exact ⟨f, fd, hm, ⟨mk, M.at_, M.fn, kc⟩, b, F⟩
end
theorem key_miss {P : Params} {z : Str} : ∀ {l : List DictEntry} {ks : List Str}, l.map He.keyOf = He.keysIn P ks → z ∉ ks → l.find? (·.key.isStr z) = none ∧ l.any (·.refKey) = false
  | [], _, _, _ => ⟨rfl, rfl⟩
  | e :: r, [], h, _ => by cases h
  | e :: r, k :: ks, h, hz => by
    have h1 : He.keyOf e :: r.map He.keyOf = some (k, PyData.keyHash P k) :: He.keysIn P ks := h
    injection h1 with h2 h3
    obtain ⟨i1, i2⟩ := key_miss h3 fun m => hz (List.mem_cons_of_mem _ m)
    unfold He.keyOf at h2
    split at h2
    · rename_i y t q
      have h4 := Option.some.inj h2
      obtain ⟨h5, h6⟩ := Prod.mk.inj h4
      have hne : ¬ y = z := fun q => hz (by rw [← q, h5]; exact List.mem_cons_self)
      have hf : e.key.isStr z = false := by
        rw [q]
        unfold Value.isStr
        simpa using hne
      have hr : e.refKey = false := by
        unfold DictEntry.refKey
        rw [q]
      refine ⟨?_, ?_⟩
      · rw [List.find?_cons, hf]; exact i1
      · rw [List.any_cons, hr, i2]; rfl
    · cases h2
theorem txt_mk {K : PySem.W.Frag} {w : World} {h : Heap} {mg : Str → Option Value} {C d : Addr} (X : K.In h) (G : h.Ns mainGlobals mg)
    (z_len : PySem.W.nsIn K mainGlobals "len" = some none)
    (z_isinstance : PySem.W.nsIn K mainGlobals "isinstance" = some none)
    (z_min : PySem.W.nsIn K mainGlobals "min" = some none)
    (z_sum : PySem.W.nsIn K mainGlobals "sum" = some none)
    (z_sorted : PySem.W.nsIn K mainGlobals "sorted" = some none)
    (z_range : PySem.W.nsIn K mainGlobals "range" = some none)
    (z_enumerate : PySem.W.nsIn K mainGlobals "enumerate" = some none)
    (z_reversed : PySem.W.nsIn K mainGlobals "reversed" = some none)
    (z_list : PySem.W.nsIn K mainGlobals "list" = some none)
    (z_tuple : PySem.W.nsIn K mainGlobals "tuple" = some none)
    (z_int : PySem.W.nsIn K mainGlobals "int" = some none)
    (z_bool : PySem.W.nsIn K mainGlobals "bool" = some none)
    (z_str : PySem.W.nsIn K mainGlobals "str" = some none)
    (z_dict : PySem.W.nsIn K mainGlobals "dict" = some none)
    (pg : PySem.W.plainGet K C Str.empty = true) (hd : PySem.W.hasDictIn K C = true) (po : PySem.W.plainOver K C = true) (sa : PySem.W.findIn K (.ref C) "__setattr__" = some (some (.builtin "object.__setattr__")))
    (nS : PySem.W.findIn K (.ref C) "slots" = some none) (nM : PySem.W.findIn K (.ref C) "met" = some none) (nR : PySem.W.findIn K (.ref C) "rows" = some none) (nF : PySem.W.findIn K (.ref C) "fresh" = some none)
    (aD : PySem.W.nsIn K mainGlobals "DEEDS" = some (some (.ref d))) (hD : He.dicW K d = some (He.keysIn w.params ["keep", "=", ":=", "<", "<="]))
    {t1 t2 t3 t4 t5 : Nat} (h1 : PySem.W.nsIn K d "keep" = some (some (.str "keep" t1))) (h2 : PySem.W.nsIn K d "=" = some (some (.str "equal" t2))) (h3 : PySem.W.nsIn K d ":=" = some (some (.str "reckon" t3))) (h4 : PySem.W.nsIn K d "<" = some (some (.str "less" t4))) (h5 : PySem.W.nsIn K d "<=" = some (some (.str "atmost" t5))) :
    ∃ es n, Txt K w mg C d es n := by
  obtain ⟨es, n, kd⟩ := He.dicW_ok (w := w) hD
  refine ⟨es, n, { cl := ⟨pg, hd, po, sa⟩, nSl := nS, nMe := nM, nRo := nR, nFr := nF, mgD := PySem.W.mg_of X G aD, kd := kd, hit := (fun q => ?_), miss := (fun z hz => ?_), len_ := PySem.W.mg_none_of X G z_len, isinstance_ := PySem.W.mg_none_of X G z_isinstance, min_ := PySem.W.mg_none_of X G z_min, sum_ := PySem.W.mg_none_of X G z_sum, sorted_ := PySem.W.mg_none_of X G z_sorted, range_ := PySem.W.mg_none_of X G z_range, enumerate_ := PySem.W.mg_none_of X G z_enumerate, reversed_ := PySem.W.mg_none_of X G z_reversed, list_ := PySem.W.mg_none_of X G z_list, tuple_ := PySem.W.mg_none_of X G z_tuple, int_ := PySem.W.mg_none_of X G z_int, bool_ := PySem.W.mg_none_of X G z_bool, str_ := PySem.W.mg_none_of X G z_str, dict_ := PySem.W.mg_none_of X G z_dict }⟩
  · cases q
    · exact ⟨_, h1⟩
    · exact ⟨_, h2⟩
    · exact ⟨_, h3⟩
    · exact ⟨_, h4⟩
    · exact ⟨_, h5⟩
  · have hk : es.toList.map He.keyOf = He.keysIn w.params ["keep", "=", ":=", "<", "<="] := by
      unfold He.dicW at hD
      rw [kd.at_] at hD
      dsimp only at hD
      split at hD
      · exact Option.some.inj hD
      · cases hD
    have hnm : z ∉ (["keep", "=", ":=", "<", "<="] : List Str) := by
      intro m
      simp only [List.mem_cons, List.not_mem_nil, or_false] at m
      rcases m with m | m | m | m | m
      · exact hz .keep m
      · exact hz .eq m
      · exact hz .asg m
      · exact hz .lt m
      · exact hz .le m
    obtain ⟨f1, f2⟩ := key_miss hk hnm
    unfold PySem.W.nsIn
    rw [kd.at_]
    dsimp only
    rw [f1]
    dsimp only
    rw [f2]; rfl
theorem asm {P : Program} {w : World} {K : PySem.W.Frag} {mg : Str → Option Value} {fa C d : Addr} {es : Array DictEntry} {n : Nat} {fd : FuncData} (tx : Txt K w mg C d es n) (hM : mg "Maker" = some (.ref C)) (mk : PySem.W.makesIn K C = true) (kc : PySem.W.keepIn K (.ref C) = true)
    (D_unknowns_of : DefAt K mg "unknowns_of" s_unknowns_of ["terms"])
    (D_key_of : DefAt K mg "key_of" s_key_of ["term"])
    (D_first_key : DefAt K mg "first_key" s_first_key ["head"])
    (D_switch_of : DefAt K mg "switch_of" s_switch_of ["heads"])
    (D_rule_code : DefAt K mg "rule_code" s_rule_code ["number", "rule"])
    (D_code_of : DefAt K mg "code_of" s_code_of ["rules"])
    (D_whole : DefAt K mg "_law_whole" s_whole ["_law_found"])
    (D_digit : DefAt K mg "_law_digit" s_digit ["_law_left", "_law_many"])
    (D_cell_at : DefAt K mg "_law_cell_at" s_cell_at ["_law_script", "_law_k"])
    (D_free_word : DefAt K mg "_law_free_word" s_free_word ["_law_left", "_law_first"])
    (D_big : DefAt K mg "_law_big" s_big ["_law_script", "_law_k"])
    (D_drawn : DefAt K mg "_law_drawn" s_drawn ["_law_script", "_law_k"])
    (D_free_words : DefAt K mg "_law_free_words" s_free_words ["_law_script", "_law_kinds"])
    (D_free_number : DefAt K mg "_law_free_number" s_free_number ["_law_left"])
    (D_free_mark : DefAt K mg "_law_free_mark" s_free_mark ["_law_left"])
    (D_free_sign : DefAt K mg "_law_free_sign" s_free_sign ["_law_left", "_law_many", "_law_words"])
    (D_free_kids : DefAt K mg "_law_free_kids" s_free_kids ["_law_left", "_law_many", "_law_room", "_law_names"])
    (D_free_parts : DefAt K mg "_law_free_parts" s_free_parts ["_law_term"])
    (D_free_term : DefAt K mg "_law_free_term" s_free_term ["_law_left", "_law_room", "_law_names"])
    (D_free_named : DefAt K mg "_law_free_named" s_free_named ["_law_left", "_law_room", "_law_names"])
    (D_free_goal : DefAt K mg "_law_free_goal" s_free_goal ["_law_left", "_law_room", "_law_names", "_law_deeds"])
    (D_free_rule : DefAt K mg "_law_free_rule" s_free_rule ["_law_cell", "_law_most", "_law_room", "_law_names", "_law_deeds"])
    (D_slots : DefAt K mg "_law_slots" s_slots ["_law_terms"])
    (D_by_slots : DefAt K mg "_law_by_slots" s_by_slots ["_law_term", "_law_slots_here"])
    (D_rows_are : DefAt K mg "_law_rows_are" s_rows_are ["_law_rows"])
    (D_head : DefAt K mg "_law_head" s_head ["_law_rows", "_law_many"])
    (D_built : DefAt K mg "_law_built" s_built ["_law_there", "_law_cell"])
    (D_taken : DefAt K mg "_law_taken" s_taken ["_law_cells", "_law_first", "_law_many"])
    (D_goal_read : DefAt K mg "_law_goal_read" s_goal_read ["_law_rows", "_law_at"])
    (D_rule_right : DefAt K mg "_law_rule_right" s_rule_right ["_law_found", "_law_number", "_law_head_here", "_law_goals"])
    (D_news : DefAt K mg "_law_news" s_news ["_law_slots_here", "_law_many"])
    (D_key : DefAt K mg "_law_key" s_key ["_law_head_here"])
    (D_switch : DefAt K mg "_law_switch" s_switch ["_law_heads"])
    (D_right : DefAt K mg "_law_right" s_right ["_law_found", "_law_rules_here"])
    (D_rules : DefAt K mg "_law_rules" s_rules ["_law_script"])
    (D_Minit : MAt K C "__init__" "Maker.__init__" s_Minit ["self", "terms"])
    (D_Mcells_for : MAt K C "cells_for" "Maker.cells_for" s_Mcells_for ["self", "many"])
    (D_Mtake : MAt K C "take" "Maker.take" s_Mtake ["self", "cell", "term"])
    (D_Mhead : MAt K C "head" "Maker.head" s_Mhead ["self", "term"])
    (D_Mbegin : MAt K C "begin" "Maker.begin" s_Mbegin ["self"])
    (D_Mbring : MAt K C "bring" "Maker.bring" s_Mbring ["self", "cell", "term"])
    (D_Mbring_kids : MAt K C "bring_kids" "Maker.bring_kids" s_Mbring_kids ["self", "term"])
    (D_Mgoal : MAt K C "goal" "Maker.goal" s_Mgoal ["self", "term", "word"])
    (FL : Fun K "law" "law" s_law fa fd) (base : Heap) : FnOk P w K mg base CX0 107 fa fd ["_law_script"] (spLaw K) := by
  have d_whole : Def P w K mg base "_law_whole" 1 ["_law_found"] spWhole := ok_whole tx D_whole
  have d_digit : Def P w K mg base "_law_digit" 1 ["_law_left", "_law_many"] spDigit := ok_digit tx D_digit
  have d_cell_at : Def P w K mg base "_law_cell_at" 1 ["_law_script", "_law_k"] (spCellAt K) := ok_cell_at tx D_cell_at
  have d_free_word : Def P w K mg base "_law_free_word" 2 ["_law_left", "_law_first"] spFreeWord := ok_free_word tx d_digit D_free_word
  have d_big : Def P w K mg base "_law_big" 2 ["_law_script", "_law_k"] (spBig K) := ok_big tx d_cell_at D_big
  have d_drawn : Def P w K mg base "_law_drawn" 3 ["_law_script", "_law_k"] (spBig K) := ok_drawn tx (d_cell_at.mono (by decide)) d_big D_drawn
  have d_free_number := ok_free_number (P := P) (base := base) tx d_digit D_free_number
  have d_free_mark := ok_free_mark (P := P) (base := base) tx d_digit D_free_mark
  have d_free_sign := ok_free_sign tx (d_digit.mono (by decide : 1 ≤ 2)) d_free_mark D_free_sign
  have d_free_words := ok_free_words tx d_drawn (d_free_word.mono (by decide : 2 ≤ 3)) D_free_words
  have d_parts : ∀ j, j ≤ 30 → Def P w K mg base "_law_free_parts" (1 + j) ["_law_term"] (spParts j) := by
    intro j
    induction j with
    | zero => intro _; exact D_free_parts.zero sc_free_parts fun vs H Q E ⟨v, t, _, _, h, _⟩ => by have := t.size_pos; omega
    | succ j ih => intro hj; exact step_free_parts tx (by omega) (ih (by omega)) D_free_parts
  have d_tk : ∀ j, j ≤ 24 → (Def P w K mg base "_law_free_term" (32 + 2 * j) ["_law_left", "_law_room", "_law_names"] (spTerm j)) ∧ (Def P w K mg base "_law_free_kids" (33 + 2 * j) ["_law_left", "_law_many", "_law_room", "_law_names"] (spKids j)) := by
    intro j
    induction j with
    | zero =>
      intro _
      have t0 : Def P w K mg base "_law_free_term" 32 ["_law_left", "_law_room", "_law_names"] (spTerm 0) := (D_free_term.zero sc_free_term fun vs H Q E ⟨l, nm, i, ws, us, ns, _, h1, h2, _⟩ => by omega : Def P w K mg base _ 1 _ _).mono (by decide)
      exact ⟨t0, step_free_kids tx (j := 0) (j2 := 30) (by decide) ((d_parts 30 (by decide)).mono (by decide : 1 + 30 ≤ 32)) t0 D_free_kids⟩
    | succ j ih =>
      intro hj
      obtain ⟨_, i2⟩ := ih (by omega)
      have t1 := step_free_term tx (d_digit.mono (by omega : 1 ≤ 33 + 2 * j)) (d_free_number.mono (by omega : 1 + 1 ≤ 33 + 2 * j)) (d_free_sign.mono (by omega : 2 + 1 ≤ 33 + 2 * j)) i2 D_free_term
      have e1 : 33 + 2 * j + 1 = 32 + 2 * (j + 1) := by omega
      rw [e1] at t1
      refine ⟨t1, ?_⟩
      have k1 := step_free_kids tx (j := j + 1) (j2 := 30) (by omega) ((d_parts 30 (by decide)).mono (by omega : 1 + 30 ≤ 32 + 2 * (j + 1))) t1 D_free_kids
      have e2 : 32 + 2 * (j + 1) + 1 = 33 + 2 * (j + 1) := by omega
      rw [e2] at k1
      exact k1
  have d_free_kids : Def P w K mg base "_law_free_kids" 79 ["_law_left", "_law_many", "_law_room", "_law_names"] (spKids 23) := (d_tk 23 (by decide)).2
  have d_free_named := ok_free_named tx (d_digit.mono (by decide : 1 ≤ 79)) d_free_kids D_free_named
  have d_free_goal := ok_free_goal tx (d_digit.mono (by decide : 1 ≤ 80)) (d_free_kids.mono (by decide : 79 ≤ 80)) d_free_named D_free_goal
  have d_free_rule := ok_free_rule tx (d_digit.mono (by decide : 1 ≤ 81)) (d_free_named.mono (by decide : 79 + 1 ≤ 81)) d_free_goal D_free_rule
  have d_rules := ok_rules tx (d_digit.mono (by decide : 1 ≤ 82)) (d_cell_at.mono (by decide : 1 ≤ 82)) (d_big.mono (by decide : 2 ≤ 82)) (d_drawn.mono (by decide : 3 ≤ 82)) (d_free_words.mono (by decide : 3 + 1 ≤ 82)) d_free_rule D_rules
  have d_unknowns_of : Def P w K mg base "unknowns_of" 1 ["terms"] spUnknowns := ok_unknowns_of tx D_unknowns_of
  have m_cells_for : MDef P w K mg base C "cells_for" 1 ["self", "many"] (spCells C) := ok_cells_for tx D_Mcells_for
  have m_take : ∀ j, MDef P w K mg base C "take" (1 + j) ["self", "cell", "term"] (spTake C j) := by
    intro j
    induction j with
    | zero => exact D_Mtake.zero sc_Mtake fun vs H Q E ⟨self, asl, amet, aro, ns, M, rs, fr, c, v, t, _, _, _, h, _⟩ => by have := t.size_pos; omega
    | succ j ih => exact step_take tx (m_cells_for.mono (Nat.le_add_right 1 j)) ih D_Mtake
  have m_bring : ∀ j, MDef P w K mg base C "bring" (1 + j) ["self", "cell", "term"] (spBring C j) := by
    intro j
    induction j with
    | zero => exact D_Mbring.zero sc_Mbring fun vs H Q E ⟨self, asl, amet, aro, ns, M, rs, fr, c, v, t, _, _, _, h, _⟩ => by have := t.size_pos; omega
    | succ j ih => exact step_bring tx (m_cells_for.mono (Nat.le_add_right 1 j)) ih D_Mbring
  have m_head := ok_head tx (m_cells_for.mono (by decide : 1 ≤ 1 + 100)) (m_take 100) D_Mhead
  have m_begin := ok_begin (k := 0) (P := P) (base := base) tx D_Mbegin
  have m_bring_kids := ok_bring_kids tx (m_cells_for.mono (by decide : 1 ≤ 1 + 100)) (m_bring 100) D_Mbring_kids
  have m_goal := ok_goal tx m_bring_kids D_Mgoal
  have m_init := ok_init tx d_unknowns_of D_Minit
  have mk_Maker := m_init.mk' hM mk kc
  have d_rule_code := ok_rule_code tx (k := 103) (by decide) mk_Maker (m_head.mono (by decide)) (m_begin.mono (by decide)) (m_goal.mono (by decide)) D_rule_code
  have d_key_of := ok_key_of (k := 0) (P := P) (base := base) tx D_key_of
  have d_first_key := ok_first_key tx d_key_of D_first_key
  have d_switch_of := ok_switch_of tx d_first_key D_switch_of
  have d_code_of := ok_code_of tx d_rule_code (d_switch_of.mono (by decide)) D_code_of
  have d_slots := ok_slots (k := 0) (P := P) (base := base) tx D_slots
  have d_by_slots : ∀ j, j ≤ 30 → Def P w K mg base "_law_by_slots" (1 + j) ["_law_term", "_law_slots_here"] (spBySlots j) := by
    intro j
    induction j with
    | zero => intro _; exact D_by_slots.zero sc_by_slots fun vs H Q E ⟨v, t, a, ns, _, _, _, _, h, _⟩ => by have := t.size_pos; omega
    | succ j ih => intro hj; exact step_by_slots tx (by omega) (ih (by omega)) D_by_slots
  have d_rows_are := ok_rows_are tx d_whole D_rows_are
  have d_built : ∀ j, Def P w K mg base "_law_built" (1 + j) ["_law_there", "_law_cell"] (spBuilt j) := by
    intro j
    induction j with
    | zero => exact D_built.zero sc_built fun vs H Q E ⟨a, c, xs, cs, f, t, _, _, _, _, _, h, _⟩ => by have := t.size_pos; omega
    | succ j ih => exact step_built tx ih D_built
  have d_head := ok_hd tx (d_built 100) D_head
  have d_taken := ok_taken (k := 0) (P := P) (base := base) tx D_taken
  have d_goal_read := ok_goal_read tx d_taken D_goal_read
  have d_news := ok_news (k := 0) (P := P) (base := base) tx D_news
  have d_rule_right := ok_rule_right tx (k := 102) (d_whole.mono (by decide)) (d_slots.mono (by decide)) (d_rows_are.mono (by decide)) d_head ((d_by_slots 30 (by decide)).mono (by decide)) (d_goal_read.mono (by decide)) (d_news.mono (by decide)) D_rule_right
  have d_key := ok_key (k := 0) (P := P) (base := base) tx D_key
  have d_switch := ok_switch tx d_key D_switch
  have d_right := ok_right tx d_rule_right (d_switch.mono (by decide)) D_right
  exact ok_law' tx (k := 106) (d_rules.mono (by decide)) (d_code_of.mono (by decide)) (d_right.mono (by decide)) FL
theorem all_mk {P : Program} {w : World} {K : PySem.W.Frag} {h : Heap} {mg : Str → Option Value} {fa C d fl : Addr} {od an : Option Addr} {sl : Array (Option Value)} {oc kV dc pm cd ct : Value} (X : K.In h) (G : h.Ns mainGlobals mg) (hfa : mg "law" = some (.ref fa))
    (aM : PySem.W.nsIn K mainGlobals "Maker" = some (some (.ref C)))
    (z_len : PySem.W.nsIn K mainGlobals "len" = some none)
    (z_isinstance : PySem.W.nsIn K mainGlobals "isinstance" = some none)
    (z_min : PySem.W.nsIn K mainGlobals "min" = some none)
    (z_sum : PySem.W.nsIn K mainGlobals "sum" = some none)
    (z_sorted : PySem.W.nsIn K mainGlobals "sorted" = some none)
    (z_range : PySem.W.nsIn K mainGlobals "range" = some none)
    (z_enumerate : PySem.W.nsIn K mainGlobals "enumerate" = some none)
    (z_reversed : PySem.W.nsIn K mainGlobals "reversed" = some none)
    (z_list : PySem.W.nsIn K mainGlobals "list" = some none)
    (z_tuple : PySem.W.nsIn K mainGlobals "tuple" = some none)
    (z_int : PySem.W.nsIn K mainGlobals "int" = some none)
    (z_bool : PySem.W.nsIn K mainGlobals "bool" = some none)
    (z_str : PySem.W.nsIn K mainGlobals "str" = some none)
    (z_dict : PySem.W.nsIn K mainGlobals "dict" = some none)
    (pg : PySem.W.plainGet K C Str.empty = true) (hd : PySem.W.hasDictIn K C = true) (po : PySem.W.plainOver K C = true) (sa : PySem.W.findIn K (.ref C) "__setattr__" = some (some (.builtin "object.__setattr__")))
    (nS : PySem.W.findIn K (.ref C) "slots" = some none) (nM : PySem.W.findIn K (.ref C) "met" = some none) (nR : PySem.W.findIn K (.ref C) "rows" = some none) (nF : PySem.W.findIn K (.ref C) "fresh" = some none)
    (aD : PySem.W.nsIn K mainGlobals "DEEDS" = some (some (.ref d))) (hD : He.dicW K d = some (He.keysIn w.params ["keep", "=", ":=", "<", "<="]))
    {t1 t2 t3 t4 t5 : Nat} (h1 : PySem.W.nsIn K d "keep" = some (some (.str "keep" t1))) (h2 : PySem.W.nsIn K d "=" = some (some (.str "equal" t2))) (h3 : PySem.W.nsIn K d ":=" = some (some (.str "reckon" t3))) (h4 : PySem.W.nsIn K d "<" = some (some (.str "less" t4))) (h5 : PySem.W.nsIn K d "<=" = some (some (.str "atmost" t5)))
    (mk : PySem.W.makesIn K C = true) (kc : PySem.W.keepIn K (.ref C) = true)
    (D_unknowns_of : DefAt K mg "unknowns_of" s_unknowns_of ["terms"])
    (D_key_of : DefAt K mg "key_of" s_key_of ["term"])
    (D_first_key : DefAt K mg "first_key" s_first_key ["head"])
    (D_switch_of : DefAt K mg "switch_of" s_switch_of ["heads"])
    (D_rule_code : DefAt K mg "rule_code" s_rule_code ["number", "rule"])
    (D_code_of : DefAt K mg "code_of" s_code_of ["rules"])
    (D_whole : DefAt K mg "_law_whole" s_whole ["_law_found"])
    (D_digit : DefAt K mg "_law_digit" s_digit ["_law_left", "_law_many"])
    (D_cell_at : DefAt K mg "_law_cell_at" s_cell_at ["_law_script", "_law_k"])
    (D_free_word : DefAt K mg "_law_free_word" s_free_word ["_law_left", "_law_first"])
    (D_big : DefAt K mg "_law_big" s_big ["_law_script", "_law_k"])
    (D_drawn : DefAt K mg "_law_drawn" s_drawn ["_law_script", "_law_k"])
    (D_free_words : DefAt K mg "_law_free_words" s_free_words ["_law_script", "_law_kinds"])
    (D_free_number : DefAt K mg "_law_free_number" s_free_number ["_law_left"])
    (D_free_mark : DefAt K mg "_law_free_mark" s_free_mark ["_law_left"])
    (D_free_sign : DefAt K mg "_law_free_sign" s_free_sign ["_law_left", "_law_many", "_law_words"])
    (D_free_kids : DefAt K mg "_law_free_kids" s_free_kids ["_law_left", "_law_many", "_law_room", "_law_names"])
    (D_free_parts : DefAt K mg "_law_free_parts" s_free_parts ["_law_term"])
    (D_free_term : DefAt K mg "_law_free_term" s_free_term ["_law_left", "_law_room", "_law_names"])
    (D_free_named : DefAt K mg "_law_free_named" s_free_named ["_law_left", "_law_room", "_law_names"])
    (D_free_goal : DefAt K mg "_law_free_goal" s_free_goal ["_law_left", "_law_room", "_law_names", "_law_deeds"])
    (D_free_rule : DefAt K mg "_law_free_rule" s_free_rule ["_law_cell", "_law_most", "_law_room", "_law_names", "_law_deeds"])
    (D_slots : DefAt K mg "_law_slots" s_slots ["_law_terms"])
    (D_by_slots : DefAt K mg "_law_by_slots" s_by_slots ["_law_term", "_law_slots_here"])
    (D_rows_are : DefAt K mg "_law_rows_are" s_rows_are ["_law_rows"])
    (D_head : DefAt K mg "_law_head" s_head ["_law_rows", "_law_many"])
    (D_built : DefAt K mg "_law_built" s_built ["_law_there", "_law_cell"])
    (D_taken : DefAt K mg "_law_taken" s_taken ["_law_cells", "_law_first", "_law_many"])
    (D_goal_read : DefAt K mg "_law_goal_read" s_goal_read ["_law_rows", "_law_at"])
    (D_rule_right : DefAt K mg "_law_rule_right" s_rule_right ["_law_found", "_law_number", "_law_head_here", "_law_goals"])
    (D_news : DefAt K mg "_law_news" s_news ["_law_slots_here", "_law_many"])
    (D_key : DefAt K mg "_law_key" s_key ["_law_head_here"])
    (D_switch : DefAt K mg "_law_switch" s_switch ["_law_heads"])
    (D_right : DefAt K mg "_law_right" s_right ["_law_found", "_law_rules_here"])
    (D_rules : DefAt K mg "_law_rules" s_rules ["_law_script"])
    (D_Minit : MAt K C "__init__" "Maker.__init__" s_Minit ["self", "terms"])
    (D_Mcells_for : MAt K C "cells_for" "Maker.cells_for" s_Mcells_for ["self", "many"])
    (D_Mtake : MAt K C "take" "Maker.take" s_Mtake ["self", "cell", "term"])
    (D_Mhead : MAt K C "head" "Maker.head" s_Mhead ["self", "term"])
    (D_Mbegin : MAt K C "begin" "Maker.begin" s_Mbegin ["self"])
    (D_Mbring : MAt K C "bring" "Maker.bring" s_Mbring ["self", "cell", "term"])
    (D_Mbring_kids : MAt K C "bring_kids" "Maker.bring_kids" s_Mbring_kids ["self", "term"])
    (D_Mgoal : MAt K C "goal" "Maker.goal" s_Mgoal ["self", "term", "word"])
    (aL : PySem.W.nsIn K mainGlobals "law" = some (some (.ref fl))) (lL : K.lookup fl = some ⟨oc, od, .func (PySem.W.fnOf "law" "law" (defArgs s_law) (defBody s_law) (defScope s_law) .none kV dc pm an cd ct), sl⟩) (cL : PySem.W.codeIn K cd "law" = true) (kL : PySem.W.keepIn K (.ref fl) = true) :
    ∃ fd : FuncData, (∀ (s : Shared) (v : Value), BindsTo s fd ⟨[v], []⟩ [("_law_script", v)]) ∧ ∀ base : Heap, K.In base → base.Ns mainGlobals mg → FnOk P w K mg base CX0 107 fa fd ["_law_script"] (spLaw K) := by
  have e := hfa.symm.trans (PySem.W.mg_of X G aL)
  cases e
  obtain ⟨es, n, tx⟩ := txt_mk X G z_len z_isinstance z_min z_sum z_sorted z_range z_enumerate z_reversed z_list z_tuple z_int z_bool z_str z_dict pg hd po sa nS nM nR nF aD hD h1 h2 h3 h4 h5
  exact ⟨PySem.W.fnOf "law" "law" (defArgs s_law) (defBody s_law) (defScope s_law) .none kV dc pm an cd ct, fun s v => .of_eq rfl, fun base _ _ =>
    asm tx (PySem.W.mg_of X G aM) mk kc D_unknowns_of D_key_of D_first_key D_switch_of D_rule_code D_code_of D_whole D_digit D_cell_at D_free_word D_big D_drawn D_free_words D_free_number D_free_mark D_free_sign D_free_kids D_free_parts D_free_term D_free_named D_free_goal D_free_rule D_slots D_by_slots D_rows_are D_head D_built D_taken D_goal_read D_rule_right D_news D_key D_switch D_right D_rules D_Minit D_Mcells_for D_Mtake D_Mhead D_Mbegin D_Mbring D_Mbring_kids D_Mgoal (fun_mk (st := s_law) lL cL kL) base⟩
end GT
open PySem PySem.W PyProof.Rows
set_option maxRecDepth 100000 in
set_option maxHeartbeats 0 in
open_top hd for PySem.Challenge.rw_goaltrail_k45_whole_code_is_the_program
open L2
set_option maxRecDepth 100000 in
set_option maxHeartbeats 0 in
theorem PySem.Challenge.cw_goaltrail_k45_whole_code_is_the_program_holds : PySem.Challenge.rw_goaltrail_k45_whole_code_is_the_program.Holds := by
  refine hd ?_
  k_fill
  refine L2.walk_of (n := 63) (k := 107) (x := "_law_script") (CX := fun _ => CX0) (sp := fun w => GT.spLaw (hd.heap_39 w.params)) rfl (by decide) rfl ⟨rfl, by decide, by decide⟩ (fun w h Y => PySem.W.kIn_of Y) ?F (fun _ _ a ns hl _ hS => ⟨a, ns, rfl, hS, fun _ => rfl⟩) (fun _ _ _ _ _ z => z)
  case F =>
    intro w mg fa h KX G hmg
    refine' GT.all_mk KX G hmg ?aM ?z_len ?z_isinstance ?z_min ?z_sum ?z_sorted ?z_range ?z_enumerate ?z_reversed ?z_list ?z_tuple ?z_int ?z_bool ?z_str ?z_dict ?pg ?hdx ?po ?sa ?nS ?nM ?nR ?nF ?aD ?hD ?h1 ?h2 ?h3 ?h4 ?h5 ?mk ?kc ?D_unknowns_of ?D_key_of ?D_first_key ?D_switch_of ?D_rule_code ?D_code_of ?D_whole ?D_digit ?D_cell_at ?D_free_word ?D_big ?D_drawn ?D_free_words ?D_free_number ?D_free_mark ?D_free_sign ?D_free_kids ?D_free_parts ?D_free_term ?D_free_named ?D_free_goal ?D_free_rule ?D_slots ?D_by_slots ?D_rows_are ?D_head ?D_built ?D_taken ?D_goal_read ?D_rule_right ?D_news ?D_key ?D_switch ?D_right ?D_rules ?D_Minit ?D_Mcells_for ?D_Mtake ?D_Mhead ?D_Mbegin ?D_Mbring ?D_Mbring_kids ?D_Mgoal ?aL ?lL ?cL ?kL
    (case aM => k_is)
    (case z_len => k_is)
    (case z_isinstance => k_is)
    (case z_min => k_is)
    (case z_sum => k_is)
    (case z_sorted => k_is)
    (case z_range => k_is)
    (case z_enumerate => k_is)
    (case z_reversed => k_is)
    (case z_list => k_is)
    (case z_tuple => k_is)
    (case z_int => k_is)
    (case z_bool => k_is)
    (case z_str => k_is)
    (case z_dict => k_is)
    (case pg => k_is)
    (case hdx => k_is)
    (case po => k_is)
    (case sa => k_is)
    (case nS => k_is)
    (case nM => k_is)
    (case nR => k_is)
    (case nF => k_is)
    (case aD => k_is)
    (case hD => first | k_is | rfl)
    (case h1 => k_is)
    (case h2 => k_is)
    (case h3 => k_is)
    (case h4 => k_is)
    (case h5 => k_is)
    (case mk => k_is)
    (case kc => k_is)
    case D_unknowns_of =>
      refine' GT.defAt' KX G ?a ?l ?c ?k ?b
      (case a => k_is)
      (case l => k_is)
      (case c => k_is)
      (case k => k_is)
      (case b => exact fun _ _ _ _ _ _ us hl => match us, hl with | [_], _ => rfl)
    case D_key_of =>
      refine' GT.defAt' KX G ?a ?l ?c ?k ?b
      (case a => k_is)
      (case l => k_is)
      (case c => k_is)
      (case k => k_is)
      (case b => exact fun _ _ _ _ _ _ us hl => match us, hl with | [_], _ => rfl)
    case D_first_key =>
      refine' GT.defAt' KX G ?a ?l ?c ?k ?b
      (case a => k_is)
      (case l => k_is)
      (case c => k_is)
      (case k => k_is)
      (case b => exact fun _ _ _ _ _ _ us hl => match us, hl with | [_], _ => rfl)
    case D_switch_of =>
      refine' GT.defAt' KX G ?a ?l ?c ?k ?b
      (case a => k_is)
      (case l => k_is)
      (case c => k_is)
      (case k => k_is)
      (case b => exact fun _ _ _ _ _ _ us hl => match us, hl with | [_], _ => rfl)
    case D_rule_code =>
      refine' GT.defAt' KX G ?a ?l ?c ?k ?b
      (case a => k_is)
      (case l => k_is)
      (case c => k_is)
      (case k => k_is)
      (case b => exact fun _ _ _ _ _ _ us hl => match us, hl with | [_, _], _ => rfl)
    case D_code_of =>
      refine' GT.defAt' KX G ?a ?l ?c ?k ?b
      (case a => k_is)
      (case l => k_is)
      (case c => k_is)
      (case k => k_is)
      (case b => exact fun _ _ _ _ _ _ us hl => match us, hl with | [_], _ => rfl)
    case D_whole =>
      refine' GT.defAt' KX G ?a ?l ?c ?k ?b
      (case a => k_is)
      (case l => k_is)
      (case c => k_is)
      (case k => k_is)
      (case b => exact fun _ _ _ _ _ _ us hl => match us, hl with | [_], _ => rfl)
    case D_digit =>
      refine' GT.defAt' KX G ?a ?l ?c ?k ?b
      (case a => k_is)
      (case l => k_is)
      (case c => k_is)
      (case k => k_is)
      (case b => exact fun _ _ _ _ _ _ us hl => match us, hl with | [_, _], _ => rfl)
    case D_cell_at =>
      refine' GT.defAt' KX G ?a ?l ?c ?k ?b
      (case a => k_is)
      (case l => k_is)
      (case c => k_is)
      (case k => k_is)
      (case b => exact fun _ _ _ _ _ _ us hl => match us, hl with | [_, _], _ => rfl)
    case D_free_word =>
      refine' GT.defAt' KX G ?a ?l ?c ?k ?b
      (case a => k_is)
      (case l => k_is)
      (case c => k_is)
      (case k => k_is)
      (case b => exact fun _ _ _ _ _ _ us hl => match us, hl with | [_, _], _ => rfl)
    case D_big =>
      refine' GT.defAt' KX G ?a ?l ?c ?k ?b
      (case a => k_is)
      (case l => k_is)
      (case c => k_is)
      (case k => k_is)
      (case b => exact fun _ _ _ _ _ _ us hl => match us, hl with | [_, _], _ => rfl)
    case D_drawn =>
      refine' GT.defAt' KX G ?a ?l ?c ?k ?b
      (case a => k_is)
      (case l => k_is)
      (case c => k_is)
      (case k => k_is)
      (case b => exact fun _ _ _ _ _ _ us hl => match us, hl with | [_, _], _ => rfl)
    case D_free_words =>
      refine' GT.defAt' KX G ?a ?l ?c ?k ?b
      (case a => k_is)
      (case l => k_is)
      (case c => k_is)
      (case k => k_is)
      (case b => exact fun _ _ _ _ _ _ us hl => match us, hl with | [_, _], _ => rfl)
    case D_free_number =>
      refine' GT.defAt' KX G ?a ?l ?c ?k ?b
      (case a => k_is)
      (case l => k_is)
      (case c => k_is)
      (case k => k_is)
      (case b => exact fun _ _ _ _ _ _ us hl => match us, hl with | [_], _ => rfl)
    case D_free_mark =>
      refine' GT.defAt' KX G ?a ?l ?c ?k ?b
      (case a => k_is)
      (case l => k_is)
      (case c => k_is)
      (case k => k_is)
      (case b => exact fun _ _ _ _ _ _ us hl => match us, hl with | [_], _ => rfl)
    case D_free_sign =>
      refine' GT.defAt' KX G ?a ?l ?c ?k ?b
      (case a => k_is)
      (case l => k_is)
      (case c => k_is)
      (case k => k_is)
      (case b => exact fun _ _ _ _ _ _ us hl => match us, hl with | [_, _, _], _ => rfl)
    case D_free_kids =>
      refine' GT.defAt' KX G ?a ?l ?c ?k ?b
      (case a => k_is)
      (case l => k_is)
      (case c => k_is)
      (case k => k_is)
      (case b => exact fun _ _ _ _ _ _ us hl => match us, hl with | [_, _, _, _], _ => rfl)
    case D_free_parts =>
      refine' GT.defAt' KX G ?a ?l ?c ?k ?b
      (case a => k_is)
      (case l => k_is)
      (case c => k_is)
      (case k => k_is)
      (case b => exact fun _ _ _ _ _ _ us hl => match us, hl with | [_], _ => rfl)
    case D_free_term =>
      refine' GT.defAt' KX G ?a ?l ?c ?k ?b
      (case a => k_is)
      (case l => k_is)
      (case c => k_is)
      (case k => k_is)
      (case b => exact fun _ _ _ _ _ _ us hl => match us, hl with | [_, _, _], _ => rfl)
    case D_free_named =>
      refine' GT.defAt' KX G ?a ?l ?c ?k ?b
      (case a => k_is)
      (case l => k_is)
      (case c => k_is)
      (case k => k_is)
      (case b => exact fun _ _ _ _ _ _ us hl => match us, hl with | [_, _, _], _ => rfl)
    case D_free_goal =>
      refine' GT.defAt' KX G ?a ?l ?c ?k ?b
      (case a => k_is)
      (case l => k_is)
      (case c => k_is)
      (case k => k_is)
      (case b => exact fun _ _ _ _ _ _ us hl => match us, hl with | [_, _, _, _], _ => rfl)
    case D_free_rule =>
      refine' GT.defAt' KX G ?a ?l ?c ?k ?b
      (case a => k_is)
      (case l => k_is)
      (case c => k_is)
      (case k => k_is)
      (case b => exact fun _ _ _ _ _ _ us hl => match us, hl with | [_, _, _, _, _], _ => rfl)
    case D_slots =>
      refine' GT.defAt' KX G ?a ?l ?c ?k ?b
      (case a => k_is)
      (case l => k_is)
      (case c => k_is)
      (case k => k_is)
      (case b => exact fun _ _ _ _ _ _ us hl => match us, hl with | [_], _ => rfl)
    case D_by_slots =>
      refine' GT.defAt' KX G ?a ?l ?c ?k ?b
      (case a => k_is)
      (case l => k_is)
      (case c => k_is)
      (case k => k_is)
      (case b => exact fun _ _ _ _ _ _ us hl => match us, hl with | [_, _], _ => rfl)
    case D_rows_are =>
      refine' GT.defAt' KX G ?a ?l ?c ?k ?b
      (case a => k_is)
      (case l => k_is)
      (case c => k_is)
      (case k => k_is)
      (case b => exact fun _ _ _ _ _ _ us hl => match us, hl with | [_], _ => rfl)
    case D_head =>
      refine' GT.defAt' KX G ?a ?l ?c ?k ?b
      (case a => k_is)
      (case l => k_is)
      (case c => k_is)
      (case k => k_is)
      (case b => exact fun _ _ _ _ _ _ us hl => match us, hl with | [_, _], _ => rfl)
    case D_built =>
      refine' GT.defAt' KX G ?a ?l ?c ?k ?b
      (case a => k_is)
      (case l => k_is)
      (case c => k_is)
      (case k => k_is)
      (case b => exact fun _ _ _ _ _ _ us hl => match us, hl with | [_, _], _ => rfl)
    case D_taken =>
      refine' GT.defAt' KX G ?a ?l ?c ?k ?b
      (case a => k_is)
      (case l => k_is)
      (case c => k_is)
      (case k => k_is)
      (case b => exact fun _ _ _ _ _ _ us hl => match us, hl with | [_, _, _], _ => rfl)
    case D_goal_read =>
      refine' GT.defAt' KX G ?a ?l ?c ?k ?b
      (case a => k_is)
      (case l => k_is)
      (case c => k_is)
      (case k => k_is)
      (case b => exact fun _ _ _ _ _ _ us hl => match us, hl with | [_, _], _ => rfl)
    case D_rule_right =>
      refine' GT.defAt' KX G ?a ?l ?c ?k ?b
      (case a => k_is)
      (case l => k_is)
      (case c => k_is)
      (case k => k_is)
      (case b => exact fun _ _ _ _ _ _ us hl => match us, hl with | [_, _, _, _], _ => rfl)
    case D_news =>
      refine' GT.defAt' KX G ?a ?l ?c ?k ?b
      (case a => k_is)
      (case l => k_is)
      (case c => k_is)
      (case k => k_is)
      (case b => exact fun _ _ _ _ _ _ us hl => match us, hl with | [_, _], _ => rfl)
    case D_key =>
      refine' GT.defAt' KX G ?a ?l ?c ?k ?b
      (case a => k_is)
      (case l => k_is)
      (case c => k_is)
      (case k => k_is)
      (case b => exact fun _ _ _ _ _ _ us hl => match us, hl with | [_], _ => rfl)
    case D_switch =>
      refine' GT.defAt' KX G ?a ?l ?c ?k ?b
      (case a => k_is)
      (case l => k_is)
      (case c => k_is)
      (case k => k_is)
      (case b => exact fun _ _ _ _ _ _ us hl => match us, hl with | [_], _ => rfl)
    case D_right =>
      refine' GT.defAt' KX G ?a ?l ?c ?k ?b
      (case a => k_is)
      (case l => k_is)
      (case c => k_is)
      (case k => k_is)
      (case b => exact fun _ _ _ _ _ _ us hl => match us, hl with | [_, _], _ => rfl)
    case D_rules =>
      refine' GT.defAt' KX G ?a ?l ?c ?k ?b
      (case a => k_is)
      (case l => k_is)
      (case c => k_is)
      (case k => k_is)
      (case b => exact fun _ _ _ _ _ _ us hl => match us, hl with | [_], _ => rfl)
    case D_Minit =>
      refine' GT.mAt' ?a ?i ?l ?c ?k ?b
      (case a => k_is)
      (case i => k_is)
      (case l => k_is)
      (case c => k_is)
      (case k => k_is)
      (case b => exact fun _ _ _ _ _ _ us hl => match us, hl with | [_, _], _ => rfl)
    case D_Mcells_for =>
      refine' GT.mAt' ?a ?i ?l ?c ?k ?b
      (case a => k_is)
      (case i => k_is)
      (case l => k_is)
      (case c => k_is)
      (case k => k_is)
      (case b => exact fun _ _ _ _ _ _ us hl => match us, hl with | [_, _], _ => rfl)
    case D_Mtake =>
      refine' GT.mAt' ?a ?i ?l ?c ?k ?b
      (case a => k_is)
      (case i => k_is)
      (case l => k_is)
      (case c => k_is)
      (case k => k_is)
      (case b => exact fun _ _ _ _ _ _ us hl => match us, hl with | [_, _, _], _ => rfl)
    case D_Mhead =>
      refine' GT.mAt' ?a ?i ?l ?c ?k ?b
      (case a => k_is)
      (case i => k_is)
      (case l => k_is)
      (case c => k_is)
      (case k => k_is)
      (case b => exact fun _ _ _ _ _ _ us hl => match us, hl with | [_, _], _ => rfl)
    case D_Mbegin =>
      refine' GT.mAt' ?a ?i ?l ?c ?k ?b
      (case a => k_is)
      (case i => k_is)
      (case l => k_is)
      (case c => k_is)
      (case k => k_is)
      (case b => exact fun _ _ _ _ _ _ us hl => match us, hl with | [_], _ => rfl)
    case D_Mbring =>
      refine' GT.mAt' ?a ?i ?l ?c ?k ?b
      (case a => k_is)
      (case i => k_is)
      (case l => k_is)
      (case c => k_is)
      (case k => k_is)
      (case b => exact fun _ _ _ _ _ _ us hl => match us, hl with | [_, _, _], _ => rfl)
    case D_Mbring_kids =>
      refine' GT.mAt' ?a ?i ?l ?c ?k ?b
      (case a => k_is)
      (case i => k_is)
      (case l => k_is)
      (case c => k_is)
      (case k => k_is)
      (case b => exact fun _ _ _ _ _ _ us hl => match us, hl with | [_, _], _ => rfl)
    case D_Mgoal =>
      refine' GT.mAt' ?a ?i ?l ?c ?k ?b
      (case a => k_is)
      (case i => k_is)
      (case l => k_is)
      (case c => k_is)
      (case k => k_is)
      (case b => exact fun _ _ _ _ _ _ us hl => match us, hl with | [_, _, _], _ => rfl)
    (case aL => k_is)
    (case lL => k_is)
    (case cL => k_is)
    (case kL => k_is)
