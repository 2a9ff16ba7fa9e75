import PyProof.Rows.All
import Wide.All
import OpenK.AllK
import Wide.FinOn
import HandS.Base
import HandS.Call
import HandS.List
import HandS.Comp
import HandS.Ends
import HandS.Dict
import HandS.Iter
import HandS.Text
import HandS.Words
import HandS.StrMore
import HandS.Conv
import HandS.TupAny
import HandS.IsInst
import HandS.Wide
import HandS.Walk
import HandS.Zip
import KE.GoesEnum
import PySem.Challenge.RW_twainkeep_k14_whole_piece_by_piece
set_option Elab.async false
set_option linter.all false
set_option maxRecDepth 100000
set_option maxHeartbeats 4000000

/-! KMath -/
namespace K14
/-! texts are lists of signs -/
abbrev Tx := List Nat
/-- a level: marks, kept -/
abbrev Lv := List Tx × List Tx

/-- the longest of some that stands at the head of x, longer than best -/
def longer (x : Tx) : Tx → List Tx → Tx
  | best, [] => best
  | best, one :: r => longer x (if best.length < one.length ∧ one.isPrefixOf x = true then one else best) r
def longest (x : Tx) (some : List Tx) : Tx := longer x [] some

theorem longer_ge (x : Tx) : ∀ (some : List Tx) (best : Tx), best.length ≤ (longer x best some).length
  | [], best => Nat.le_refl _
  | one :: r, best => by
    unfold longer
    have h := longer_ge x r (if best.length < one.length ∧ one.isPrefixOf x = true then one else best)
    split at h
    · rename_i c
      rw [if_pos c]
      omega
    · rename_i c
      rw [if_neg c]
      exact h
theorem longer_pre (x : Tx) : ∀ (some : List Tx) (best : Tx), best <+: x → longer x best some <+: x
  | [], best, h => h
  | one :: r, best, h => by
    unfold longer
    refine longer_pre x r _ ?_
    split
    · rename_i c
      exact List.isPrefixOf_iff_prefix.mp c.2
    · exact h
theorem longest_pre (x : Tx) (some : List Tx) : longest x some <+: x := longer_pre x some [] (List.nil_prefix)
/-- what stands at the head of x and fits in a shorter text is the longest there, too -/
theorem longer_cut {x x' : Tx} (hp : x' <+: x) : ∀ (some : List Tx) (best : Tx), (longer x best some).length ≤ x'.length → longer x' best some = longer x best some
  | [], best, _ => rfl
  | one :: r, best, h => by
    unfold longer at h ⊢
    have e : (best.length < one.length ∧ one.isPrefixOf x' = true) ↔ (best.length < one.length ∧ one.isPrefixOf x = true) := by
      constructor
      · rintro ⟨a, b⟩
        exact ⟨a, List.isPrefixOf_iff_prefix.mpr ((List.isPrefixOf_iff_prefix.mp b).trans hp)⟩
      · rintro ⟨a, b⟩
        refine ⟨a, List.isPrefixOf_iff_prefix.mpr ?_⟩
        rw [if_pos ⟨a, b⟩] at h
        have g := longer_ge x r one
        exact List.prefix_of_prefix_length_le (List.isPrefixOf_iff_prefix.mp b) hp (by omega)
    by_cases c : best.length < one.length ∧ one.isPrefixOf x = true
    · rw [if_pos c] at h ⊢
      rw [if_pos (e.mpr c)]
      exact longer_cut hp r one h
    · rw [if_neg c] at h ⊢
      rw [if_neg (fun q => c (e.mp q))]
      exact longer_cut hp r best h
theorem longest_cut {x x' : Tx} (hp : x' <+: x) (some : List Tx) (h : (longest x some).length ≤ x'.length) : longest x' some = longest x some := longer_cut hp some [] h

/-- how far one turn goes at x (not empty), and whether the piece ends there -/
def goes (l : Lv) (x : Tx) : Nat × Bool :=
  if longest x l.2 ≠ [] then ((longest x l.2).length, false)
  else if longest x l.1 ≠ [] then ((longest x l.1).length, true)
  else (1, false)
theorem goes_pos (l : Lv) (x : Tx) : 0 < (goes l x).1 := by
  unfold goes
  split
  · rename_i h
    exact List.length_pos_iff.mpr h
  · split
    · rename_i h
      exact List.length_pos_iff.mpr h
    · exact Nat.one_pos
theorem goes_le (l : Lv) {x : Tx} (hx : x ≠ []) : (goes l x).1 ≤ x.length := by
  unfold goes
  split
  · exact (longest_pre x l.2).length_le
  · split
    · exact (longest_pre x l.1).length_le
    · exact List.length_pos_iff.mpr hx
/-- a turn within a shorter text is the same -/
theorem goes_cut (l : Lv) {x x' : Tx} (hp : x' <+: x) (h : (goes l x).1 ≤ x'.length) : goes l x' = goes l x := by
  unfold goes at h ⊢
  by_cases c : longest x l.2 ≠ []
  · rw [if_pos c] at h
    have e := longest_cut hp l.2 h
    rw [e, if_pos c, if_pos c]
  · have c0 : longest x l.2 = [] := Classical.not_not.mp c
    have e := longest_cut hp l.2 (by rw [c0]; exact Nat.zero_le _)
    rw [if_neg c] at h
    rw [e, if_neg c, if_neg c]
    by_cases d : longest x l.1 ≠ []
    · rw [if_pos d] at h
      have e2 := longest_cut hp l.1 h
      rw [e2, if_pos d]
    · have d0 : longest x l.1 = [] := Classical.not_not.mp d
      have e2 := longest_cut hp l.1 (by rw [d0]; exact Nat.zero_le _)
      rw [e2, if_neg d]
/-- the pieces of cur ++ x, cur being passed already -/
def cutGo (l : Lv) (cur x : Tx) : List Tx :=
  if hx : x = [] then (if cur = [] then [] else [cur])
  else if (goes l x).2 = true then (cur ++ x.take (goes l x).1) :: cutGo l [] (x.drop (goes l x).1)
  else cutGo l (cur ++ x.take (goes l x).1) (x.drop (goes l x).1)
termination_by x.length
decreasing_by
  all_goals
    have h1 := goes_pos l x
    have h2 : 0 < x.length := List.length_pos_iff.mpr hx
    rw [List.length_drop]
    omega
def pieces (l : Lv) (x : Tx) : List Tx := cutGo l [] x
theorem cutGo_nil (l : Lv) (cur : Tx) : cutGo l cur [] = if cur = [] then [] else [cur] := by
  rw [cutGo]; simp
theorem cutGo_cut (l : Lv) (cur : Tx) {x : Tx} (hx : x ≠ []) (h : (goes l x).2 = true) : cutGo l cur x = (cur ++ x.take (goes l x).1) :: cutGo l [] (x.drop (goes l x).1) := by
  rw [cutGo, dif_neg hx, if_pos h]
theorem cutGo_on (l : Lv) (cur : Tx) {x : Tx} (hx : x ≠ []) (h : (goes l x).2 = false) : cutGo l cur x = cutGo l (cur ++ x.take (goes l x).1) (x.drop (goes l x).1) := by
  rw [cutGo, dif_neg hx, if_neg (by rw [h]; exact Bool.false_ne_true)]
/-- the first piece: q of what is left; what is behind it is cut for itself, and a shorter text that reaches beyond q has the same first piece -/
theorem first (l : Lv) : ∀ (n : Nat) (x cur : Tx), x.length ≤ n → cur ++ x ≠ [] → ∃ q r, x = q ++ r ∧ cur ++ q ≠ [] ∧ cutGo l cur x = (cur ++ q) :: cutGo l [] r ∧ ∀ t, t <+: r → cutGo l cur (q ++ t) = (cur ++ q) :: cutGo l [] t := by
  intro n
  induction n with
  | zero =>
    intro x cur hn hne
    have hx : x = [] := List.length_eq_zero_iff.mp (Nat.le_zero.mp hn)
    subst hx
    rw [List.append_nil] at hne
    refine ⟨[], [], rfl, by rw [List.append_nil]; exact hne, ?_, ?_⟩
    · rw [cutGo_nil, if_neg hne, cutGo_nil, if_pos rfl, List.append_nil]
    · intro t ht
      have e : t = [] := List.prefix_nil.mp ht
      subst e
      show cutGo l cur [] = _
      rw [cutGo_nil, if_neg hne, cutGo_nil, if_pos rfl, List.append_nil]
  | succ n ih =>
    intro x cur hn hne
    by_cases hx : x = []
    · subst hx
      rw [List.append_nil] at hne
      refine ⟨[], [], rfl, by rw [List.append_nil]; exact hne, ?_, ?_⟩
      · rw [cutGo_nil, if_neg hne, cutGo_nil, if_pos rfl, List.append_nil]
      · intro t ht
        have e : t = [] := List.prefix_nil.mp ht
        subst e
        show cutGo l cur [] = _
        rw [cutGo_nil, if_neg hne, cutGo_nil, if_pos rfl, List.append_nil]
    · have h1 := goes_pos l x
      have h2 := goes_le l hx
      have hl : 0 < x.length := List.length_pos_iff.mpr hx
      have htk : (x.take (goes l x).1).length = (goes l x).1 := by rw [List.length_take]; omega
      have hne2 : x.take (goes l x).1 ≠ [] := fun e => by rw [e] at htk; simp at htk; omega
      cases hg : (goes l x).2 with
      | true =>
        refine ⟨x.take (goes l x).1, x.drop (goes l x).1, (List.take_append_drop _ _).symm, fun e => hne2 (List.append_eq_nil_iff.mp e).2, cutGo_cut l cur hx hg, fun t ht => ?_⟩
        have hp : x.take (goes l x).1 ++ t <+: x := by
          have z := (List.prefix_append_right_inj (x.take (goes l x).1)).mpr ht
          rw [List.take_append_drop] at z
          exact z
        have hg2 : goes l (x.take (goes l x).1 ++ t) = goes l x := goes_cut l hp (by rw [List.length_append, htk]; omega)
        have hx2 : x.take (goes l x).1 ++ t ≠ [] := fun e => hne2 (List.append_eq_nil_iff.mp e).1
        rw [cutGo_cut l cur hx2 (by rw [hg2]; exact hg), hg2, List.take_left' htk, List.drop_left' htk]
      | false =>
        have hd : (x.drop (goes l x).1).length ≤ n := by rw [List.length_drop]; omega
        obtain ⟨q, r, e1, e2, e3, e4⟩ := ih (x.drop (goes l x).1) (cur ++ x.take (goes l x).1) hd (fun e => hne2 (List.append_eq_nil_iff.mp (List.append_eq_nil_iff.mp e).1).2)
        have ex : x = x.take (goes l x).1 ++ q ++ r := by
          rw [List.append_assoc, ← e1, List.take_append_drop]
        refine ⟨x.take (goes l x).1 ++ q, r, ex, by rw [← List.append_assoc]; exact e2, ?_, fun t ht => ?_⟩
        · rw [cutGo_on l cur hx hg, e3, List.append_assoc]
        · have hp : x.take (goes l x).1 ++ q ++ t <+: x := by
            have z := (List.prefix_append_right_inj (x.take (goes l x).1 ++ q)).mpr ht
            rw [← ex] at z
            exact z
          have hg2 : goes l (x.take (goes l x).1 ++ q ++ t) = goes l x := goes_cut l hp (by rw [List.length_append, List.length_append, htk]; omega)
          have hx2 : x.take (goes l x).1 ++ q ++ t ≠ [] := fun e => hne2 (List.append_eq_nil_iff.mp (List.append_eq_nil_iff.mp e).1).1
          rw [cutGo_on l cur hx2 (by rw [hg2]; exact hg), hg2, List.append_assoc, List.take_left' htk, List.drop_left' htk, e4 t ht, List.append_assoc]
theorem pieces_nil (l : Lv) : pieces l [] = [] := by
  unfold pieces
  rw [cutGo_nil, if_pos rfl]
theorem pieces_first (l : Lv) {x : Tx} (hx : x ≠ []) : ∃ q r, x = q ++ r ∧ q ≠ [] ∧ pieces l x = q :: pieces l r ∧ ∀ t, t <+: r → pieces l (q ++ t) = q :: pieces l t := by
  obtain ⟨q, r, a, b, c, d⟩ := first l x.length x [] (Nat.le_refl _) (by rw [List.nil_append]; exact hx)
  exact ⟨q, r, a, b, c, d⟩
/-- point by point along a text -/
theorem pieces_ind (l : Lv) {P : Tx → Prop} (h0 : P []) (h1 : ∀ q r, q ≠ [] → pieces l (q ++ r) = q :: pieces l r → (∀ t, t <+: r → pieces l (q ++ t) = q :: pieces l t) → P r → P (q ++ r)) : ∀ (n : Nat) (x : Tx), x.length ≤ n → P x := by
  intro n
  induction n with
  | zero =>
    intro x hn
    have hx : x = [] := List.length_eq_zero_iff.mp (Nat.le_zero.mp hn)
    rw [hx]
    exact h0
  | succ n ih =>
    intro x hn
    by_cases hx : x = []
    · rw [hx]; exact h0
    · obtain ⟨q, r, a, b, c, d⟩ := pieces_first l hx
      have hq : 0 < q.length := List.length_pos_iff.mpr b
      have hl : x.length = q.length + r.length := by rw [a, List.length_append]
      rw [a] at c ⊢
      exact h1 q r b c d (ih r (by omega))
theorem pieces_flat (l : Lv) (x : Tx) : (pieces l x).flatten = x := by
  refine pieces_ind l (P := fun x => (pieces l x).flatten = x) ?_ (fun q r _ c _ ih => ?_) x.length x (Nat.le_refl _)
  · rw [pieces_nil]; rfl
  · rw [c, List.flatten_cons, ih]
theorem pieces_ne (l : Lv) (x : Tx) : ∀ p ∈ pieces l x, p ≠ [] := by
  refine pieces_ind l (P := fun x => ∀ p ∈ pieces l x, p ≠ []) ?_ (fun q r hq c _ ih => ?_) x.length x (Nat.le_refl _)
  · rw [pieces_nil]; intro p hp; cases hp
  · rw [c]
    intro p hp
    rcases List.mem_cons.mp hp with e | e
    · rw [e]; exact hq
    · exact ih p e
/-- the text up to the end of the k-th piece -/
def ahead (l : Lv) (x : Tx) (k : Nat) : Tx := ((pieces l x).take k).flatten
theorem ahead_pre (l : Lv) (x : Tx) (k : Nat) : ahead l x k <+: x := by
  refine ⟨((pieces l x).drop k).flatten, ?_⟩
  unfold ahead
  rw [← List.flatten_append, List.take_append_drop, pieces_flat]
theorem pieces_both (l : Lv) (x : Tx) : ∀ k, pieces l (ahead l x k) = (pieces l x).take k ∧ pieces l (x.drop (ahead l x k).length) = (pieces l x).drop k := by
  refine pieces_ind l (P := fun x => ∀ k, pieces l (ahead l x k) = (pieces l x).take k ∧ pieces l (x.drop (ahead l x k).length) = (pieces l x).drop k) ?_ (fun q r hq c d ih => ?_) x.length x (Nat.le_refl _)
  · intro k
    have e : ahead l [] k = [] := by unfold ahead; rw [pieces_nil, List.take_nil]; rfl
    rw [e, pieces_nil, List.take_nil, List.drop_nil, List.drop_nil, pieces_nil]
    exact ⟨rfl, rfl⟩
  · intro k
    cases k with
    | zero =>
      have e : ahead l (q ++ r) 0 = [] := rfl
      rw [e, pieces_nil, List.take_zero]
      exact ⟨rfl, rfl⟩
    | succ k =>
      obtain ⟨i1, i2⟩ := ih k
      have e : ahead l (q ++ r) (k + 1) = q ++ ahead l r k := by
        unfold ahead
        rw [c, List.take_succ_cons, List.flatten_cons]
      refine ⟨?_, ?_⟩
      · rw [e, d _ (ahead_pre l r k), i1, c, List.take_succ_cons]
      · rw [e, List.length_append, c, List.drop_succ_cons, ← i2]
        congr 1
        rw [← List.drop_drop, List.drop_left' rfl]
theorem pieces_piece (l : Lv) (x : Tx) : ∀ p ∈ pieces l x, pieces l p = [p] := by
  refine pieces_ind l (P := fun x => ∀ p ∈ pieces l x, pieces l p = [p]) ?_ (fun q r hq c d ih => ?_) x.length x (Nat.le_refl _)
  · rw [pieces_nil]; intro p hp; cases hp
  · rw [c]
    intro p hp
    rcases List.mem_cons.mp hp with e | e
    · have z := d [] List.nil_prefix
      rw [List.append_nil, pieces_nil] at z
      rw [e, z]
    · exact ih p e
theorem pieces_len (l : Lv) (x : Tx) : (pieces l x).length ≤ x.length := by
  refine pieces_ind l (P := fun x => (pieces l x).length ≤ x.length) ?_ (fun q r hq c d ih => ?_) x.length x (Nat.le_refl _)
  · rw [pieces_nil]; exact Nat.le_refl _
  · have hq : 0 < q.length := List.length_pos_iff.mpr hq
    rw [c, List.length_cons, List.length_append]
    omega
theorem mem_flat_le : ∀ (ps : List Tx) (p : Tx), p ∈ ps → p.length ≤ ps.flatten.length
  | [], _, h => by cases h
  | q :: r, p, h => by
    rw [List.flatten_cons, List.length_append]
    rcases List.mem_cons.mp h with e | e
    · rw [e]; omega
    · have := mem_flat_le r p e
      omega
theorem piece_len (l : Lv) (x : Tx) {p : Tx} (h : p ∈ pieces l x) : p.length ≤ x.length := by
  have z := mem_flat_le _ _ h
  rw [pieces_flat] at z
  exact z
/-- the leaves of the tree, in order -/
def leavesOf : List Lv → Tx → List Tx
  | [], x => [x]
  | l :: r, x => (pieces l x).flatMap (leavesOf r)
theorem flatMap_flat (f : Tx → List Tx) (h : ∀ x, (f x).flatten = x) : ∀ ps : List Tx, (ps.flatMap f).flatten = ps.flatten
  | [] => rfl
  | p :: r => by rw [List.flatMap_cons, List.flatten_append, List.flatten_cons, h p, flatMap_flat f h r]
theorem leaves_flat : ∀ (rs : List Lv) (x : Tx), (leavesOf rs x).flatten = x
  | [], x => by show [x].flatten = x; simp
  | l :: r, x => by
    show ((pieces l x).flatMap (leavesOf r)).flatten = x
    rw [flatMap_flat _ (leaves_flat r), pieces_flat]
theorem flatMap_len (f : Tx → List Tx) : ∀ ps : List Tx, (∀ p ∈ ps, (f p).length ≤ p.length) → (ps.flatMap f).length ≤ ps.flatten.length
  | [], _ => Nat.le_refl _
  | p :: r, h => by
    rw [List.flatMap_cons, List.length_append, List.flatten_cons, List.length_append]
    have h1 := h p (List.mem_cons_self ..)
    have h2 := flatMap_len f r fun q hq => h q (List.mem_cons_of_mem _ hq)
    omega
/-- of a text that isn't empty there are no more leaves than signs -/
theorem leaves_len : ∀ (rs : List Lv) (x : Tx), x ≠ [] → (leavesOf rs x).length ≤ x.length
  | [], x, hx => List.length_pos_iff.mpr hx
  | l :: r, x, hx => by
    show ((pieces l x).flatMap (leavesOf r)).length ≤ x.length
    have z := flatMap_len (leavesOf r) (pieces l x) fun p hp => leaves_len r p (pieces_ne l x p hp)
    rw [pieces_flat] at z
    exact z
theorem leaves_len1 (rs : List Lv) (x : Tx) : (leavesOf rs x).length ≤ x.length + 1 := by
  by_cases hx : x = []
  · subst hx
    cases rs with
    | nil => exact Nat.le_refl 1
    | cons l r =>
      show ((pieces l []).flatMap (leavesOf r)).length ≤ 1
      rw [pieces_nil]
      exact Nat.zero_le _
  · exact Nat.le_succ_of_le (leaves_len rs x hx)
end K14

/-! KBase -/
namespace K14
open PySem PySem.Spec PyProof.Rows L2
/-! ### the text by places -/
def topS (i : Nat) : Stmt := PySem.Challenge.pw_twainkeep_k14_whole_piece_by_piece.main.body.getD i (.Pass ⟨0, 0, 0, 0⟩)
abbrev sLongest : Stmt := topS 1
abbrev sPieces : Stmt := topS 2
abbrev sCut : Stmt := topS 3
abbrev sLeavesFrom : Stmt := topS 4
abbrev sLeaves : Stmt := topS 5
abbrev sSewn : Stmt := topS 6
abbrev sPot : Stmt := topS 8
abbrev sTake : Stmt := topS 9
abbrev sSeed : Stmt := topS 10
abbrev sSame : Stmt := topS 11
abbrev sText : Stmt := topS 12
abbrev sMarks : Stmt := topS 13
abbrev sRules : Stmt := topS 14
abbrev sRight : Stmt := topS 15
abbrev sLaw : Stmt := topS 16
/-! ### texts as values -/
def mk (x : Tx) : Str := ⟨x.toArray⟩
def sv (x : Tx) : V := .str (mk x)
theorem mk_tl' (z : Str) : mk (TL.tl z) = z := TL.mk_tl z
theorem tl_mk' (x : Tx) : TL.tl (mk x) = x := rfl
theorem mk_len (x : Tx) : (mk x).length = x.length := by
  rw [TL.len_tl]
  rfl
theorem mk_inj {x y : Tx} (h : mk x = mk y) : x = y := by
  have := congrArg TL.tl h
  exact this
theorem sv_inj {x y : Tx} (h : sv x = sv y) : x = y := mk_inj (V.str.inj h)
/-! ### heaps -/
theorem same_new {H : Hp} {p : Addr} (h : H p = none) (o : HO) : Same H (upd H p o) := fun b u q => by
  rw [upd_ne (ne_of_none q h)]
  exact q
/-- the tuples that were tracked stand -/
def Tups (H H' : Hp) : Prop := ∀ p xs, H p = some (.tup xs) → H' p = some (.tup xs)
theorem Tups.refl (H : Hp) : Tups H H := fun _ _ h => h
theorem Tups.trans {H H1 H2 : Hp} (a : Tups H H1) (b : Tups H1 H2) : Tups H H2 := fun p xs h => b p xs (a p xs h)
theorem tups_of {H H' : Hp} (h : Same H H') : Tups H H' := fun p xs e => h p _ e
/-- all but the thing at a is as it was -/
def Keep (a : Addr) (H H' : Hp) : Prop := ∀ b o, b ≠ a → H b = some o → H' b = some o
theorem Keep.refl (a : Addr) (H : Hp) : Keep a H H := fun _ _ _ h => h
theorem Keep.trans {a : Addr} {H H1 H2 : Hp} (x : Keep a H H1) (y : Keep a H1 H2) : Keep a H H2 := fun b o n h => y b o n (x b o n h)
theorem keep_of {a : Addr} {H H' : Hp} (h : Same H H') : Keep a H H' := fun b o _ e => h b o e
theorem keep_upd {a : Addr} {H : Hp} {o : HO} : Keep a H (upd H a o) := fun b u n e => by
  rw [upd_ne n]
  exact e
/-- the pot at a: two numbers -/
def PotAt (H : Hp) (a : Addr) : Prop := ∃ x y : Int, H a = some (.lst [.int x, .int y]) ∧ 0 ≤ x ∧ 0 ≤ y ∧ y < 4611686018427387904
theorem PotAt.same {H H' : Hp} {a : Addr} (h : PotAt H a) (s : Same H H') : PotAt H' a := by
  obtain ⟨x, y, e, r⟩ := h
  exact ⟨x, y, s _ _ e, r⟩
theorem PotAt.ne {H : Hp} {a p : Addr} {xs : List V} (h : PotAt H a) (e : H p = some (.tup xs)) : p ≠ a := by
  obtain ⟨x, y, e2, _⟩ := h
  exact ne_of e e2 (fun z => nomatch z)
theorem PotAt.ne0 {H : Hp} {a p : Addr} (h : PotAt H a) (e : H p = none) : a ≠ p := by
  obtain ⟨x, y, e2, _⟩ := h
  exact ne_of_none e2 e
theorem PotAt.tups {H H' : Hp} {a : Addr} (h : PotAt H a) (k : Keep a H H') : Tups H H' := fun p xs e => k p _ (h.ne e) e
/-! ### pairs of lists -/
section
variable {α β : Type} {F : α → β → Prop}
theorem pd_take : ∀ {xs : List α} {ys : List β} (n : Nat), Paired F xs ys → Paired F (xs.take n) (ys.take n)
  | _, _, 0, _ => .nil
  | _, _, _ + 1, .nil => .nil
  | _, _, n + 1, .cons a t => .cons a (pd_take n t)
theorem pd_drop : ∀ {xs : List α} {ys : List β} (n : Nat), Paired F xs ys → Paired F (xs.drop n) (ys.drop n)
  | _, _, 0, h => h
  | _, _, _ + 1, .nil => .nil
  | _, _, n + 1, .cons _ t => pd_drop n t
theorem pd_app : ∀ {xs xs' : List α} {ys ys' : List β}, Paired F xs ys → Paired F xs' ys' → Paired F (xs ++ xs') (ys ++ ys')
  | _, _, _, _, .nil, h => h
  | _, _, _, _, .cons a t, h => .cons a (pd_app t h)
theorem pd_get : ∀ {xs : List α} {ys : List β} {i : Nat} {x : α}, Paired F xs ys → xs[i]? = some x → ∃ y, ys[i]? = some y ∧ F x y
  | _, _, _, _, .nil, e => by simp at e
  | _, _, 0, _, .cons a _, e => by
    simp at e
    subst e
    exact ⟨_, rfl, a⟩
  | _, _, i + 1, x, .cons _ t, e => by
    obtain ⟨y, h1, h2⟩ := pd_get (i := i) (x := x) t (by simpa using e)
    exact ⟨y, by simpa using h1, h2⟩
theorem pd_mono {G : α → β → Prop} : ∀ {xs : List α} {ys : List β}, Paired F xs ys → (∀ a b, F a b → G a b) → Paired G xs ys
  | _, _, .nil, _ => .nil
  | _, _, .cons a t, f => .cons (f _ _ a) (pd_mono t f)
end
/-! ### levels, rules, trees in the heap -/
def LvAt (H : Hp) (v : V) (l : Lv) : Prop := ∃ p a b, v = .ref p ∧ H p = some (.tup [.ref a, .ref b]) ∧ H a = some (.tup (l.1.map sv)) ∧ H b = some (.tup (l.2.map sv))
def RulesAt (H : Hp) (v : V) (rs : List Lv) : Prop := ∃ p vs, v = .ref p ∧ H p = some (.tup vs) ∧ Paired (LvAt H) vs rs
/-- v is the tree of x by rs -/
def CutAt (H : Hp) : List Lv → Tx → V → Prop
  | [], x, v => v = sv x
  | l :: rs, x, v => ∃ p vs, v = .ref p ∧ H p = some (.tup vs) ∧ Paired (fun u y => CutAt H rs y u) vs (pieces l x)
/-- a leaf with its path -/
def LeafAt (H : Hp) (v : V) (y : Tx) : Prop := ∃ b u, v = .ref b ∧ H b = some (.tup [u, sv y])
theorem LvAt.tups {H H' : Hp} (t : Tups H H') {v : V} {l : Lv} (h : LvAt H v l) : LvAt H' v l := by
  obtain ⟨p, a, b, e, h1, h2, h3⟩ := h
  exact ⟨p, a, b, e, t _ _ h1, t _ _ h2, t _ _ h3⟩
theorem RulesAt.tups {H H' : Hp} (t : Tups H H') {v : V} {rs : List Lv} (h : RulesAt H v rs) : RulesAt H' v rs := by
  obtain ⟨p, vs, e, h1, h2⟩ := h
  exact ⟨p, vs, e, t _ _ h1, pd_mono h2 fun _ _ => LvAt.tups t⟩
theorem CutAt.tups {H H' : Hp} (t : Tups H H') : ∀ {rs : List Lv} {x : Tx} {v : V}, CutAt H rs x v → CutAt H' rs x v
  | [], _, _, h => h
  | l :: rs, x, v, h => by
    obtain ⟨p, vs, e, h1, h2⟩ := h
    exact ⟨p, vs, e, t _ _ h1, pd_mono h2 fun _ _ => CutAt.tups t⟩
theorem LeafAt.tups {H H' : Hp} (t : Tups H H') {v : V} {y : Tx} (h : LeafAt H v y) : LeafAt H' v y := by
  obtain ⟨b, u, e, h1⟩ := h
  exact ⟨b, u, e, t _ _ h1⟩
/-- levels whose texts are short -/
def SmallLv (l : Lv) : Prop := (∀ m ∈ l.1, m.length ≤ 1000) ∧ ∀ m ∈ l.2, m.length ≤ 1000
theorem line1000 {n : Nat} (h : n ≤ 1000) : n ≤ sizeLine := Nat.le_of_lt (small1000 h)
end K14
namespace K14
open PySem PySem.Spec PyProof.Rows L2
/-- a list that is written is no tuple -/
theorem tups_upd {H : Hp} {D : Addr} {xs : List V} (h : H D = some (.lst xs)) (o : HO) : Tups H (upd H D o) := fun p ys e => by
  rw [upd_ne (ne_of e h (fun z => nomatch z))]
  exact e
theorem tups_new {H : Hp} {p : Addr} (h : H p = none) (o : HO) : Tups H (upd H p o) := tups_of (same_new h o)
/-- over a list that is new behind H the heap may be written -/
theorem same_upd2 {H H1 : Hp} {D : Addr} (nD : H D = none) (s : Same H H1) (o : HO) : Same H (upd H1 D o) := fun b u e => by
  rw [upd_ne (ne_of_none e nD)]
  exact s b u e
theorem cutV_from (xs : List V) (k : Nat) : cutV xs (some (k : Int)) none = xs.drop k := by
  unfold cutV
  rw [HT.sIx_nat, HT.sIx_none]
  by_cases c : k ≤ xs.length
  · rw [Nat.min_eq_left c]
    exact List.take_of_length_le (by rw [List.length_drop]; exact Nat.le_refl _)
  · rw [Nat.min_eq_right (by omega), List.drop_eq_nil_of_le (show xs.length ≤ k by omega), List.drop_eq_nil_of_le (Nat.le_refl _), List.take_nil]
theorem cutV_to (xs : List V) (k : Nat) : cutV xs none (some (k : Int)) = xs.take k := by
  unfold cutV
  rw [HT.sIx_nat, HT.sIx_none, Nat.sub_zero, List.drop_zero]
  by_cases c : k ≤ xs.length
  · rw [Nat.min_eq_left c]
  · rw [Nat.min_eq_right (by omega), List.take_length, List.take_of_length_le (by omega)]
end K14

/-! KText -/
namespace K14
open PySem PySem.Spec PyProof.Rows L2
/-! ### texts: a place, a slice, a sum -/
theorem take_isPrefix (x y : Tx) : (x.take y.length == y) = y.isPrefixOf x := by
  cases h : y.isPrefixOf x with
  | true =>
    obtain ⟨t, e⟩ := List.isPrefixOf_iff_prefix.mp h
    subst e
    rw [List.take_left' rfl]
    exact beq_self_eq_true y
  | false =>
    refine beq_eq_false_iff_ne.mpr fun e => ?_
    have z : y <+: x := by
      rw [← e]
      exact List.take_prefix _ _
    rw [List.isPrefixOf_iff_prefix.mpr z] at h
    cases h
theorem starts_at (x y : Tx) (i : Nat) (hi : i ≤ x.length) : Txt.startswith3 (mk x) (mk y) (i : Int) = y.isPrefixOf (x.drop i) := by
  unfold Txt.startswith3
  have e0 : PySem.fromIndex (mk x).length (i : Int) = i := by
    unfold PySem.fromIndex
    split <;> omega
  rw [e0, mk_len, mk_len]
  rw [PySem.StrLaws.subAt_eq]
  show (decide (i + y.length ≤ x.length) && ((x.drop i).take (mk y).length == y)) = _
  rw [mk_len, take_isPrefix]
  by_cases c : i + y.length ≤ x.length
  · rw [decide_eq_true c, Bool.true_and]
  · rw [decide_eq_false c, Bool.false_and]
    cases h : y.isPrefixOf (x.drop i) with
    | false => rfl
    | true =>
      have z := (List.isPrefixOf_iff_prefix.mp h).length_le
      rw [List.length_drop] at z
      omega
theorem cut_sv (x : Tx) (a b : Nat) (hb : b ≤ x.length) : V.str (cutS (mk x) (some (a : Int)) (some (b : Int))) = sv ((x.drop a).take (b - a)) := by
  unfold cutS sv mk
  have el : (({ cps := x.toArray } : Str)).length = x.length := mk_len x
  rw [el, HT.sIx_nat, HT.sIx_nat, Nat.min_eq_left hb]
  by_cases c : a ≤ x.length
  · rw [Nat.min_eq_left c]
  · have d : x.drop a = [] := List.drop_eq_nil_of_le (by omega)
    have d2 : b - a = 0 := by omega
    rw [d, d2, List.take_nil]
    have d3 : b - min a x.length = 0 := by omega
    rw [d3, List.take_zero]
theorem cut_from (x : Tx) (a : Nat) (ha : a ≤ x.length) : V.str (cutS (mk x) (some (a : Int)) none) = sv (x.drop a) := by
  unfold cutS sv mk
  have el : (({ cps := x.toArray } : Str)).length = x.length := mk_len x
  rw [el, HT.sIx_nat, HT.sIx_none, Nat.min_eq_left ha]
  show V.str { cps := (List.take (x.length - a) (List.drop a x)).toArray } = _
  rw [List.take_of_length_le (by rw [List.length_drop]; omega)]
theorem cut_to (x : Tx) (b : Nat) : V.str (cutS (mk x) none (some (b : Int))) = sv (x.take b) := by
  unfold cutS sv mk
  have el : (({ cps := x.toArray } : Str)).length = x.length := mk_len x
  rw [el, HT.sIx_nat, HT.sIx_none]
  show V.str { cps := (List.take (min b x.length - 0) (List.drop 0 x)).toArray } = _
  rw [List.drop_zero, Nat.sub_zero]
  by_cases c : b ≤ x.length
  · rw [Nat.min_eq_left c]
  · rw [Nat.min_eq_right (by omega), List.take_length, List.take_of_length_le (by omega)]
/-- some slice of a text, whatever the bounds -/
theorem cut_any (x : Tx) (a b : Option Int) : ∃ y : Tx, V.str (cutS (mk x) a b) = sv y ∧ y.length ≤ x.length := by
  refine ⟨TL.tl (cutS (mk x) a b), ?_, ?_⟩
  · unfold sv
    rw [mk_tl']
  · have z := cutS_length (mk x) a b
    rw [mk_len, TL.len_tl] at z
    exact z
theorem sv_eq (x y : Tx) : decide (sv x = sv y) = decide (x = y) := by
  by_cases h : x = y
  · rw [h, decide_eq_true rfl, decide_eq_true rfl]
  · rw [decide_eq_false h, decide_eq_false fun e => h (sv_inj e)]
theorem join_sv (ys : List Tx) : V.str (Txt.join (mk []) (ys.map mk)) = sv ys.flatten := by
  unfold sv
  congr 1
  refine TL.ext_tl ?_
  rw [TL.join_eq, TL.tl_join]
  show TL.joinL [] ((ys.map mk).map TL.tl) = ys.flatten
  have e : (ys.map mk).map TL.tl = ys := by
    rw [List.map_map]
    exact List.map_id _
  rw [e]
  have j : ∀ ys : List Tx, TL.joinL [] ys = ys.flatten := by
    intro ys
    induction ys with
    | nil => rfl
    | cons p r ih =>
      cases r with
      | nil => show p = (p :: []).flatten; simp
      | cons q r =>
        show p ++ ([] ++ TL.joinL [] (q :: r)) = _
        rw [ih, List.nil_append]
        rfl
  exact j ys
theorem map_sv (ys : List Tx) : ys.map sv = (ys.map mk).map V.str := by
  rw [List.map_map]
  rfl
theorem join_size (ys : List Tx) : ((ys.map mk).map (·.length)).sum + (ys.map mk).length * (mk []).length = ys.flatten.length := by
  rw [mk_len, List.length_nil, Nat.mul_zero, Nat.add_zero]
  induction ys with
  | nil => rfl
  | cons p r ih =>
    rw [List.flatten_cons, List.length_append, List.map_cons, List.map_cons, List.sum_cons, ih, mk_len]
end K14

/-! KLongest -/
namespace K14
open PySem PySem.Spec PyProof.Rows L2
theorem scLongest : FnScope ["text", "at", "some", "longest", "one"] ["text", "at", "some"] (defScope sLongest) :=
  ⟨rfl, rfl, rfl, by decide +kernel, rfl, by decide +kernel, by decide +kernel⟩
theorem longer_snoc (x : Tx) (one : Tx) : ∀ (some : List Tx) (best : Tx), longer x best (some ++ [one]) = if (longer x best some).length < one.length ∧ one.isPrefixOf x = true then one else longer x best some
  | [], best => rfl
  | o :: r, best => by
    rw [List.cons_append]
    unfold longer
    exact longer_snoc x one r _
theorem longest_take {x : Tx} {some : List Tx} {i : Nat} {one : Tx} (h : some[i]? = Option.some one) : longest x (some.take (i + 1)) = if (longest x (some.take i)).length < one.length ∧ one.isPrefixOf x = true then one else longest x (some.take i) := by
  rw [List.take_add_one, h]
  exact longer_snoc x one _ []
section
variable {P : Program} {w : World} {K : PySem.W.Frag} {mg : Str → Option Value} {base : Heap}
def spLongest : Sp := fun vs H Q _ => ∃ (x : Tx) (i : Nat) (p : Addr) (ms : List Tx), vs = [sv x, .int (i : Int), .ref p] ∧ i ≤ x.length ∧ x.length ≤ 1000 ∧ H p = some (.tup (ms.map sv)) ∧ (∀ m ∈ ms, m.length ≤ 1000) ∧
  Q (sv (longest (x.drop i) ms)) H
theorem ok_longest {f : Addr} {fd : FuncData} {k : Nat} (F : Fun K "longest_at" "longest_at" sLongest f fd) (ml : mg "len" = none) : FnOk P w K mg base CX0 (k + 1) f fd ["text", "at", "some"] spLongest := by
  refine F.ok scLongest (fun vs H Q E h => ?_) (fun cdv A outer s H vs Q E hr h => ?_)
  · obtain ⟨x, i, p, ms, rfl, _⟩ := h
    rfl
  obtain ⟨x, i, p, ms, rfl, hi, hx, hp, hms, q⟩ := h
  refine ⟨_, pss_cons (ps_set (i := 3) scLongest.nd rfl (.inl rfl) pe_str)
    (pss_cons (ps_for PassesOwn.never rfl (pi_tup (pv 2)) (pg_name (i := 4) scLongest.nd rfl (.inl rfl))
      (pss_one (ps_if (PW.pt (pw_and (pt_cmpR op_gt (pe_callB call_len_str (by rfl) ml PySem.boot_len (pa_cons (pv 4) pa_nil)) (pe_callB call_len_str (by rfl) ml PySem.boot_len (pa_cons (pv 3) pa_nil)) (nomark _))
          (pw_and1 (pt_val (pe_bm PySem.F.plainAttrs_str PySem.F.slot_str_startswith PySem.F.type_str_startswith mt_startswith3 (pv 0) (pa_cons (pv 4) (pa_cons (pv 1) pa_nil)))))))
        (pss_one (ps_set (i := 3) scLongest.nd rfl (.inl rfl) (pv 4))) pss_nil)))
    (pss_one (ps_ret (pv 3)))), ?_⟩
  refine ⟨.ref p, rfl, p, rfl, ⟨_, SqT.of hp⟩, for_tup (xs := ms.map sv)
    (fun j σ H' => H' = H ∧ ∃ y4, σ = [some (sv x), some (.int (i : Int)), some (.ref p), some (sv (longest (x.drop i) (ms.take j))), y4]) ⟨rfl, none, rfl⟩ (fun j σ H' _ h => by rw [h.1]; exact SqT.of hp) (fun j v σ H' hv h => ?_) (fun σ H' h => ?_)⟩
  · obtain ⟨rfl, y4, rfl⟩ := h
    rw [List.getElem?_map] at hv
    obtain ⟨m, hm, rfl⟩ := Option.map_eq_some_iff.mp hv
    have hm1 : m.length ≤ 1000 := hms m (List.mem_of_getElem? hm)
    have hl1 : (longest (x.drop i) (ms.take j)).length ≤ 1000 := by
      have z := (longest_pre (x.drop i) (ms.take j)).length_le
      rw [List.length_drop] at z
      omega
    refine ⟨_, rfl, mk m, rfl, by rw [mk_len]; exact line1000 hm1, _, rfl, mk (longest (x.drop i) (ms.take j)), rfl, by rw [mk_len]; exact line1000 hl1, _, _, rfl, rfl, _, rfl, ?_⟩
    rw [mk_len, mk_len]
    have nxt : ∀ z : Tx, z = longest (x.drop i) (ms.take (j + 1)) → (H' = H' ∧ ∃ y4, ([some (sv x), some (.int (i : Int)), some (.ref p), some (sv z), some (sv m)] : L2.St) = [some (sv x), some (.int (i : Int)), some (.ref p), some (sv (longest (x.drop i) (ms.take (j + 1)))), y4]) := by
      rintro z rfl
      exact ⟨rfl, _, rfl⟩
    have lt := longest_take (x := x.drop i) hm
    refine ite2 (fun c => ?_) (fun c => ?_)
    · have c' : ((longest (x.drop i) (ms.take j)).length : Int) < (m.length : Int) := of_decide_eq_true c
      refine ⟨_, rfl, rfl, _, rfl, _, rfl, mk x, mk m, (i : Int), rfl, rfl, _, rfl, ?_⟩
      rw [starts_at x m i hi]
      cases e : m.isPrefixOf (x.drop i) with
      | true =>
        refine iteT ⟨_, rfl, nxt m ?_⟩
        rw [lt, if_pos ⟨by omega, e⟩]
      | false =>
        refine iteF (nxt _ ?_)
        rw [lt, if_neg (fun z => by rw [e] at z; exact absurd z.2 Bool.false_ne_true)]
    · have c' : ¬ ((longest (x.drop i) (ms.take j)).length : Int) < (m.length : Int) := of_decide_eq_false (Bool.eq_false_iff.mpr c)
      refine iteF (nxt _ ?_)
      rw [lt, if_neg (fun z => c' (by have := z.1; omega))]
  · obtain ⟨rfl, y4, rfl⟩ := h
    refine ⟨_, rfl, ?_⟩
    rw [List.length_map, List.take_length]
    exact q
end
end K14

/-! KPieces -/
namespace K14
open PySem PySem.Spec PyProof.Rows L2
theorem scPieces : FnScope ["text", "level", "marks", "kept", "pieces", "begin", "at", "whole", "mark"] ["text", "level"] (defScope sPieces) :=
  ⟨rfl, rfl, rfl, by decide +kernel, rfl, by decide +kernel, by decide +kernel⟩
/-- one turn of the loop, in the mathematics -/
theorem cut_step (l : Lv) (x : Tx) (b i : Nat) (hb : b ≤ i) (hi : i < x.length) (g : Nat) (hg : (goes l (x.drop i)).1 = g) :
    i + g ≤ x.length ∧ 0 < g ∧ ((goes l (x.drop i)).2 = true → cutGo l ((x.drop b).take (i - b)) (x.drop i) = ((x.drop b).take (i + g - b)) :: cutGo l [] (x.drop (i + g))) ∧
      ((goes l (x.drop i)).2 = false → cutGo l ((x.drop b).take (i - b)) (x.drop i) = cutGo l ((x.drop b).take (i + g - b)) (x.drop (i + g))) := by
  have hne : x.drop i ≠ [] := fun e => by
    have z := congrArg List.length e
    rw [List.length_drop, List.length_nil] at z
    omega
  have h1 := goes_pos l (x.drop i)
  have h2 := goes_le l hne
  rw [List.length_drop] at h2
  rw [hg] at h1 h2
  have et : (x.drop b).take (i - b) ++ (x.drop i).take g = (x.drop b).take (i + g - b) := by
    have e1 : i + g - b = (i - b) + g := by omega
    have e2 : x.drop i = (x.drop b).drop (i - b) := by
      rw [List.drop_drop]
      congr 1
      omega
    rw [e1, e2, List.take_add]
  refine ⟨by omega, h1, fun e => ?_, fun e => ?_⟩
  · rw [cutGo_cut l _ hne e, hg, et, List.drop_drop]
  · rw [cutGo_on l _ hne e, hg, et, List.drop_drop]
section
variable {P : Program} {w : World} {K : PySem.W.Frag} {mg : Str → Option Value} {base : Heap}
def spPieces : Sp := fun vs H Q _ => ∃ (x : Tx) (v : V) (l : Lv), vs = [sv x, v] ∧ LvAt H v l ∧ SmallLv l ∧ x.length ≤ 1000 ∧
  ∀ H' r, Same H H' → H' r = some (.lst ((pieces l x).map sv)) → Q (.ref r) H'
theorem ok_pieces {f fL : Addr} {fd fdL : FuncData} {k : Nat} (F : Fun K "pieces_of" "pieces_of" sPieces f fd) (FL : Fun K "longest_at" "longest_at" sLongest fL fdL) (bL : Binds K fdL ["text", "at", "some"] []) (gL : mg "longest_at" = some (.ref fL))
    (ml : mg "len" = none) : FnOk P w K mg base CX0 (k + 2) f fd ["text", "level"] spPieces := by
  have GL : FnOk P w K mg base CX0 (k + 1) fL fdL ["text", "at", "some"] spLongest := ok_longest FL ml
  refine F.ok scPieces (fun vs H Q E h => ?_) (fun cdv A outer s H vs Q E hr h => ?_)
  · obtain ⟨x, v, l, rfl, _⟩ := h
    rfl
  obtain ⟨x, v, l, rfl, ⟨p, a, bk, rfl, hp, ha, hb⟩, hs, hx, q⟩ := h
  refine ⟨_, pss_cons (ps_asg (pv 1) (pg_tup (by rfl) (pgs_cons (pg_name (i := 2) scPieces.nd rfl (.inl rfl)) (pgs_cons (pg_name (i := 3) scPieces.nd rfl (.inl rfl)) pgs_nil))))
    (pss_cons (ps_set (i := 4) scPieces.nd rfl (.inl rfl) (pe_lst pa_nil))
    (pss_cons (ps_set (i := 5) scPieces.nd rfl (.inl rfl) pe_int)
    (pss_cons (ps_set (i := 6) scPieces.nd rfl (.inl rfl) pe_int)
    (pss_cons (ps_while PassesOwn.never (pt_cmpR op_lt (pv 6) (pe_callB call_len_str (by rfl) ml PySem.boot_len (pa_cons (pv 0) pa_nil)) (nomark _))
      (pss_cons (ps_set (i := 7) scPieces.nd rfl (.inl rfl) (pe_call GL hr (by rfl) gL FL.kp bL .nil pass0 (pa_cons (pv 0) (pa_cons (pv 6) (pa_cons (pv 3) pa_nil)))))
      (pss_cons (ps_set (i := 8) scPieces.nd rfl (.inl rfl) (pe_call GL hr (by rfl) gL FL.kp bL .nil pass0 (pa_cons (pv 0) (pa_cons (pv 6) (pa_cons (pv 2) pa_nil)))))
      (pss_one (ps_if (pt_cmpR op_ne (pv 7) pe_str (nomark _))
        (pss_one (ps_set (i := 6) scPieces.nd rfl (.inl rfl) (pe_op op_add (pv 6) (pe_callB call_len_str (by rfl) ml PySem.boot_len (pa_cons (pv 7) pa_nil)))))
        (pss_one (ps_if (pt_cmpR op_ne (pv 8) pe_str (nomark _))
          (pss_cons (ps_set (i := 6) scPieces.nd rfl (.inl rfl) (pe_op op_add (pv 6) (pe_callB call_len_str (by rfl) ml PySem.boot_len (pa_cons (pv 8) pa_nil))))
          (pss_cons (ps_expr (pe_bm PySem.F.plainAttrs_list PySem.F.slot_list_append PySem.F.type_list_append mt_append (pv 4) (pa_cons (pe_slice sl_str (pv 0) (po_some (pv 5)) (po_some (pv 6))) pa_nil)))
          (pss_one (ps_set (i := 5) scPieces.nd rfl (.inl rfl) (pv 6)))))
          (pss_one (ps_set (i := 6) scPieces.nd rfl (.inl rfl) (pe_op op_add (pv 6) pe_int))))))))))
    (pss_cons (ps_if (pt_cmpR op_lt (pv 5) (pe_callB call_len_str (by rfl) ml PySem.boot_len (pa_cons (pv 0) pa_nil)) (nomark _))
      (pss_one (ps_expr (pe_bm PySem.F.plainAttrs_list PySem.F.slot_list_append PySem.F.type_list_append mt_append (pv 4) (pa_cons (pe_slice sl_str (pv 0) (po_some (pv 5)) po_none) pa_nil)))) pss_nil)
    (pss_one (ps_ret (pv 4)))))))), ?_⟩
  have xs1 : (mk x).length ≤ sizeLine := by
    rw [mk_len]
    exact line1000 hx
  -- marks, kept = level; pieces = []
  refine ⟨.ref p, rfl, p, _, rfl, SqT.of hp, rfl, .ref a, [.ref bk], rfl, .ref bk, [], rfl, rfl, ?_⟩
  refine ⟨Nat.zero_le _, fun r nr => ?_⟩
  -- the loop
  refine ⟨fun m σ H' => ∃ (i b : Nat) (acc : List Tx) (y7 y8 : Option V), σ = [some (sv x), some (.ref p), some (.ref a), some (.ref bk), some (.ref r), some (.int (b : Int)), some (.int (i : Int)), y7, y8] ∧ m = x.length - i ∧
      b ≤ i ∧ i ≤ x.length ∧ Same H H' ∧ H' r = some (.lst (acc.map sv)) ∧ acc ++ cutGo l ((x.drop b).take (i - b)) (x.drop i) = pieces l x,
    ⟨x.length, 0, 0, [], none, none, rfl, rfl, Nat.le_refl _, Nat.zero_le _, same_new nr _, upd_same, rfl⟩, fun m σ H' hW => ?_⟩
  obtain ⟨i, b, acc, y7, y8, rfl, em, hbi, hix, sm, er, ec⟩ := hW
  have hacc : acc.length ≤ x.length := by
    have z := pieces_len l x
    rw [← ec, List.length_append] at z
    omega
  have hroom : (acc.map sv).length < sizeLine := by
    rw [List.length_map]
    exact small1000 (by omega)
  have hlst : tyV K "list" (.ref r) H' := .inl ⟨rfl, _, .inl (.inl er)⟩
  refine ⟨_, rfl, _, rfl, mk x, rfl, xs1, (i : Int), (mk x).length, rfl, rfl, _, rfl, ?_⟩
  rw [mk_len]
  refine ite2 (fun c => ?_) (fun c => ?_)
  · have hi : i < x.length := by
      have c' : (i : Int) < (x.length : Int) := of_decide_eq_true c
      omega
    refine ⟨fun σ' H'' => ∃ m', m' < m ∧ ∃ (i b : Nat) (acc : List Tx) (y7 y8 : Option V), σ' = [some (sv x), some (.ref p), some (.ref a), some (.ref bk), some (.ref r), some (.int (b : Int)), some (.int (i : Int)), y7, y8] ∧ m' = x.length - i ∧
      b ≤ i ∧ i ≤ x.length ∧ Same H H'' ∧ H'' r = some (.lst (acc.map sv)) ∧ acc ++ cutGo l ((x.drop b).take (i - b)) (x.drop i) = pieces l x, fun σ' H'' h => h, ?_⟩
    -- whole = .., mark = ..
    refine ⟨_, rfl, _, rfl, .ref bk, rfl, x, i, bk, l.2, rfl, hix, hx, sm _ _ hb, hs.2, ?_⟩
    refine ⟨_, rfl, _, rfl, .ref a, rfl, x, i, a, l.1, rfl, hix, hx, sm _ _ ha, hs.1, ?_⟩
    have hw1 : (mk (longest (x.drop i) l.2)).length ≤ sizeLine := by
      have z := (longest_pre (x.drop i) l.2).length_le
      rw [List.length_drop] at z
      rw [mk_len]
      exact line1000 (by omega)
    have hm1 : (mk (longest (x.drop i) l.1)).length ≤ sizeLine := by
      have z := (longest_pre (x.drop i) l.1).length_le
      rw [List.length_drop] at z
      rw [mk_len]
      exact line1000 (by omega)
    refine ⟨_, rfl, rfl, _, rfl, ?_⟩
    show if (!decide (sv (longest (x.drop i) l.2) = sv [])) = true then _ else _
    rw [sv_eq]
    refine ite2 (fun c2 => ?_) (fun c2 => ?_)
    · have d2 : longest (x.drop i) l.2 ≠ [] := fun e => by
        rw [e] at c2
        exact absurd c2 (by decide)
      have hg : goes l (x.drop i) = ((longest (x.drop i) l.2).length, false) := if_pos d2
      obtain ⟨g1, g2, g3, g4⟩ := cut_step l x b i hbi hi _ (congrArg Prod.fst hg)
      refine ⟨_, rfl, _, rfl, mk (longest (x.drop i) l.2), rfl, hw1, (i : Int), (mk (longest (x.drop i) l.2)).length, rfl, rfl, ?_⟩
      refine ⟨x.length - (i + (longest (x.drop i) l.2).length), by omega, i + (longest (x.drop i) l.2).length, b, acc, some (sv (longest (x.drop i) l.2)), some (sv (longest (x.drop i) l.1)), ?_, rfl, by omega, g1, sm, er, ?_⟩
      · rw [mk_len]
        rfl
      · rw [← g4 (congrArg Prod.snd hg)]
        exact ec
    · have d2 : ¬ longest (x.drop i) l.2 ≠ [] := fun e => c2 (by rw [decide_eq_false e]; rfl)
      refine ⟨_, rfl, rfl, _, rfl, ?_⟩
      show if (!decide (sv (longest (x.drop i) l.1) = sv [])) = true then _ else _
      rw [sv_eq]
      refine ite2 (fun c3 => ?_) (fun c3 => ?_)
      · have d3 : longest (x.drop i) l.1 ≠ [] := fun e => by
          rw [e] at c3
          exact absurd c3 (by decide)
        have hg : goes l (x.drop i) = ((longest (x.drop i) l.1).length, true) := by
          unfold goes
          rw [if_neg d2, if_pos d3]
        obtain ⟨g1, g2, g3, g4⟩ := cut_step l x b i hbi hi _ (congrArg Prod.fst hg)
        refine ⟨_, rfl, _, rfl, mk (longest (x.drop i) l.1), rfl, hm1, (i : Int), (mk (longest (x.drop i) l.1)).length, rfl, rfl, ?_⟩
        refine ⟨.ref r, rfl, hlst, sv x, rfl, .int (b : Int), rfl, (b : Int), rfl, .int ((i : Int) + (mk (longest (x.drop i) l.1)).length), rfl, _, rfl, mk x, rfl, xs1, ?_⟩
        have ecut : V.str (cutS (mk x) (some (b : Int)) (some ((i : Int) + ((mk (longest (x.drop i) l.1)).length : Int)))) = sv ((x.drop b).take (i + (longest (x.drop i) l.1).length - b)) := by
          have z := cut_sv x b (i + (longest (x.drop i) l.1).length) g1
          rw [← z, mk_len]
          rfl
        rw [ecut]
        refine ⟨r, _, _, rfl, rfl, er, hroom, ?_⟩
        refine ⟨_, rfl, ?_⟩
        refine ⟨x.length - (i + (longest (x.drop i) l.1).length), by omega, i + (longest (x.drop i) l.1).length, i + (longest (x.drop i) l.1).length, acc ++ [(x.drop b).take (i + (longest (x.drop i) l.1).length - b)], some (sv (longest (x.drop i) l.2)), some (sv (longest (x.drop i) l.1)), ?_, rfl, Nat.le_refl _, g1, fun c u e => ?_, ?_, ?_⟩
        · rw [mk_len]
          rfl
        · rw [upd_ne (ne_of_none e nr)]
          exact sm _ _ e
        · rw [upd_same, List.map_append]
          rfl
        · rw [Nat.sub_self, List.take_zero, ← ec, g3 (congrArg Prod.snd hg), List.append_assoc]
          rfl
      · have d3 : ¬ longest (x.drop i) l.1 ≠ [] := fun e => c3 (by rw [decide_eq_false e]; rfl)
        have hg : goes l (x.drop i) = (1, false) := by
          unfold goes
          rw [if_neg d2, if_neg d3]
        obtain ⟨g1, g2, g3, g4⟩ := cut_step l x b i hbi hi _ (congrArg Prod.fst hg)
        refine ⟨_, rfl, _, _, rfl, rfl, ?_⟩
        refine ⟨x.length - (i + 1), by omega, i + 1, b, acc, _, _, rfl, rfl, by omega, g1, sm, er, ?_⟩
        rw [← g4 (congrArg Prod.snd hg)]
        exact ec
  · -- behind the loop
    have hi : i = x.length := by
      have c' : ¬ (i : Int) < (x.length : Int) := of_decide_eq_false (Bool.eq_false_iff.mpr c)
      omega
    subst hi
    have e0 : x.drop x.length = [] := List.drop_length
    have e1 : (x.drop b).take (x.length - b) = x.drop b := List.take_of_length_le (by rw [List.length_drop]; exact Nat.le_refl _)
    rw [e0, e1, cutGo_nil] at ec
    refine ⟨_, rfl, _, rfl, mk x, rfl, xs1, (b : Int), (mk x).length, rfl, rfl, _, rfl, ?_⟩
    rw [mk_len]
    refine ite2 (fun c2 => ?_) (fun c2 => ?_)
    · have hbx : b < x.length := by
        have c' : (b : Int) < (x.length : Int) := of_decide_eq_true c2
        omega
      have hne : x.drop b ≠ [] := fun e => by
        have z := congrArg List.length e
        rw [List.length_drop, List.length_nil] at z
        omega
      rw [if_neg hne] at ec
      refine ⟨.ref r, rfl, hlst, sv x, rfl, .int (b : Int), rfl, (b : Int), rfl, mk x, rfl, xs1, ?_⟩
      rw [cut_from x b hbi]
      refine ⟨r, _, _, rfl, rfl, er, hroom, ?_⟩
      refine ⟨_, rfl, q _ r (fun c u e => ?_) ?_⟩
      · rw [upd_ne (ne_of_none e nr)]
        exact sm _ _ e
      · rw [upd_same, ← ec, List.map_append]
        rfl
    · have hbx : ¬ b < x.length := by
        have c' : ¬ (b : Int) < (x.length : Int) := of_decide_eq_false (Bool.eq_false_iff.mpr c2)
        omega
      have hne : x.drop b = [] := List.drop_eq_nil_of_le (by omega)
      rw [if_pos hne, List.append_nil] at ec
      refine ⟨_, rfl, q _ r sm ?_⟩
      rw [← ec]
      exact er
end
end K14

/-! KCut -/
namespace K14
open PySem PySem.Spec PyProof.Rows L2
theorem scCut : FnScope ["text", "rules", "pieces", "piece"] ["text", "rules"] (defScope sCut) :=
  ⟨rfl, rfl, rfl, by decide +kernel, rfl, by decide +kernel, by decide +kernel⟩
theorem pd_sv (H : Hp) (ps : List Tx) : Paired (fun u y => CutAt H [] y u) (ps.map sv) ps := by
  induction ps with
  | nil => exact .nil
  | cons p r ih => exact .cons rfl ih
section
variable {P : Program} {w : World} {K : PySem.W.Frag} {mg : Str → Option Value} {base : Heap}
def spCut (n : Nat) : Sp := fun vs H Q _ => ∃ (x : Tx) (v : V) (rs : List Lv), vs = [sv x, v] ∧ RulesAt H v rs ∧ rs.length = n ∧ 0 < n ∧ (∀ l ∈ rs, SmallLv l) ∧ x.length ≤ 1000 ∧
  ∀ v' H', Same H H' → CutAt H' rs x v' → Q v' H'
theorem cut_none {f : Addr} {fd : FuncData} {k : Nat} : FnOk P w K mg base CX0 k f fd ["text", "rules"] (spCut 0) := by
  have no : ∀ vs H Q E, ¬ spCut 0 vs H Q E := fun vs H Q E h => by
    obtain ⟨x, v, rs, _, _, _, h0, _⟩ := h
    omega
  exact ⟨fun vs H Q E h => absurd h (no vs H Q E), fun A outer s H args us vs Q E _ _ _ _ h => absurd h (no vs H Q E)⟩
theorem ok_cut {f fP : Addr} {fd fdP : FuncData} {n : Nat} (F : Fun K "cut_up" "cut_up" sCut f fd) (bF : Binds K fd ["text", "rules"] []) (gF : mg "cut_up" = some (.ref f))
    (GC : FnOk P w K mg base CX0 (n + 2) f fd ["text", "rules"] (spCut n)) (GP : FnOk P w K mg base CX0 2 fP fdP ["text", "level"] spPieces) (kP : PySem.W.keepIn K (.ref fP) = true) (bP : Binds K fdP ["text", "level"] []) (gP : mg "pieces_of" = some (.ref fP))
    (ml : mg "len" = none) (mt : mg "tuple" = none) : FnOk P w K mg base CX0 (n + 3) f fd ["text", "rules"] (spCut (n + 1)) := by
  refine F.ok scCut (fun vs H Q E h => ?_) (fun cdv A outer s H vs Q E hr h => ?_)
  · obtain ⟨x, v, l, rfl, _⟩ := h
    rfl
  obtain ⟨x, v, rs, rfl, ⟨p, vs, rfl, hp, hv⟩, hn, _, hs, hx, q⟩ := h
  refine ⟨_, pss_cons (ps_set (i := 2) scCut.nd rfl (.inl rfl) (pe_call GP (hr.mono (Nat.le_add_left 2 n)) (by rfl) gP kP bP .nil pass0 (pa_cons (pv 0) (pa_cons (pe_ix ix_tup (pv 1) pe_int (fun _ _ => rfl)) pa_nil))))
    (pss_cons (ps_if (pt_cmpR op_eq (pe_callB call_len_seq (by rfl) ml PySem.boot_len (pa_cons (pv 1) pa_nil)) pe_int (nomark _))
      (pss_one (ps_ret (pe_callTy call_tuple_of (by rfl) mt (by decide +kernel) (pa_cons (pv 2) pa_nil)))) pss_nil)
    (pss_one (ps_ret (pe_callTy call_tuple_of (by rfl) mt (by decide +kernel) (pa_cons
      (pe_lc (own := [("piece", 3)]) (g := gName 3) (tt := tYes) rfl scCut.nd (pi_list (pv 2)) (blkOk_by (own := [("piece", 3)]) (N := ["text", "rules", "pieces", "piece"]) (sc := defScope sCut) (by decide +kernel))
        (fun _ _ _ _ _ => pg_name (i := 3) scCut.nd rfl (Or.inl rfl)) (fun _ _ _ _ _ => pts_nil)
        (fun _ _ _ _ _ => pe_call GC hr (by rfl) gF F.kp bF .nil pass0 (pa_cons (pv 3) (pa_cons (pe_slice (r := rSlA K) sl_tupA (pv 1) (po_some pe_int) po_none) pa_nil)))) pa_nil))))), ?_⟩
  cases hv with
  | nil =>
    have hn : (0 : Nat) = n + 1 := hn
    omega
  | @cons v0 l vr rr h0 hr0 =>
  have hn : rr.length = n := Nat.succ.inj hn
  refine ⟨_, rfl, .ref p, rfl, p, _, 0, v0, rfl, rfl, SqT.of hp, atI_nat (j := 0) rfl, x, v0, l, rfl, h0, hs l (List.mem_cons_self ..), hx, fun H1 r sm1 er => ?_⟩
  have hp1 := sm1 _ _ hp
  refine ⟨.ref p, rfl, p, _, rfl, .inr (SqT.of hp1), rfl, _, rfl, ?_⟩
  refine ite2 (fun c => ?_) (fun c => ?_)
  · have c1 : ((v0 :: vr).length : Int) = 1 := V.int.inj (of_decide_eq_true c)
    have e1 : rr = [] := by
      have z := hr0.length
      rw [List.length_cons] at c1
      exact List.length_eq_zero_iff.mp (by omega)
    subst e1
    refine ⟨.ref r, rfl, r, _, rfl, .inl ⟨SqL.of er, fun t nt => q (.ref t) _ (sm1.trans (same_new nt _)) ⟨t, _, rfl, upd_same, pd_sv _ _⟩⟩⟩
  · have c1 : ¬ ((v0 :: vr).length : Int) = 1 := fun e => c (decide_eq_true (congrArg V.int e))
    refine ⟨.ref r, rfl, r, rfl, ⟨_, SqL.of er⟩, fun D nD => ?_⟩
    refine lc_list (xs := (pieces l x).map sv) (fun j H2 => ∃ acc, Same H1 H2 ∧ H2 D = some (.lst acc) ∧ Paired (fun u y => CutAt H2 rr y u) acc ((pieces l x).take j))
      ⟨[], same_new nD _, upd_same, .nil⟩ (fun j H2 _ h => SqL.of (h.choose_spec.1 _ _ er)) (fun j u H2 hu h => ?_) (fun H2 h => ?_)
    · obtain ⟨acc, sm2, eD, pd⟩ := h
      rw [List.getElem?_map] at hu
      obtain ⟨y, hy, rfl⟩ := Option.map_eq_some_iff.mp hu
      have hyx : y.length ≤ 1000 := Nat.le_trans (piece_len l x (List.mem_of_getElem? hy)) hx
      refine ⟨rfl, ?_⟩
      refine ⟨sv y, rfl, .ref p, rfl, 1, rfl, p, _, rfl, SqT.of (sm2 _ _ hp1), fun z => ?_, fun _ p2 np2 => ?_⟩
      · have z1 := z.1
        rw [show (1 : Int) = ((1 : Nat) : Int) from rfl, HT.sIx_nat, List.length_cons] at z1
        omega
      · have er2 : RulesAt (upd H2 p2 (.tup (cutV (v0 :: vr) (some 1) none))) (.ref p2) rr := by
          have e := cutV_from (v0 :: vr) 1
          refine ⟨p2, vr, rfl, ?_, pd_mono hr0 fun _ _ hl => LvAt.tups (tups_of (sm1.trans (sm2.trans (same_new np2 _)))) hl⟩
          rw [upd_same]
          congr 2
        refine ⟨y, .ref p2, rr, rfl, er2, hn, ?_, fun l2 h2 => hs l2 (List.mem_cons_of_mem _ h2), hyx, fun v' H3 sm3 cut => ?_⟩
        · have z := hr0.length
          rw [List.length_cons] at c1
          omega
        · have sm23 : Same H2 H3 := (same_new np2 _).trans sm3
          have eD3 := sm23 _ _ eD
          have hlen : acc.length ≤ 1000 := by
            have z := pd.length
            rw [List.length_take] at z
            have z2 := pieces_len l x
            omega
          refine ⟨acc, eD3, small1000 hlen, acc ++ [v'], same_upd2 nD (sm2.trans sm23) _, upd_same, ?_⟩
          rw [List.take_add_one, hy]
          refine pd_mono (pd_app (pd_mono pd fun _ _ hc => CutAt.tups (tups_of sm23) hc) (.cons cut .nil)) fun _ _ hc => CutAt.tups (tups_upd eD3 _) hc
    · obtain ⟨acc, sm2, eD, pd⟩ := h
      rw [List.length_map, List.take_length] at pd
      refine ⟨D, _, rfl, .inl ⟨SqL.of eD, fun t nt => q (.ref t) _ (sm1.trans (sm2.trans (same_new nt _))) ⟨t, _, rfl, upd_same, pd_mono pd fun _ _ hc => CutAt.tups (tups_new nt _) hc⟩⟩⟩
end
end K14

/-! KEnum -/
/-! enumerate over a tuple (one argument), which the layer has for lists alone -/
namespace PySem
open Sem (wp)
theorem k14_new_enum {v : Value} {o : Obj} {G : Heap → Prop} (B : Begins v o G) :
    Meets (Builtin.«enumerate.__new__» ⟨[.type "enumerate", v], []⟩) (fun _ R s => G s.heap ∧
      R (.ok (.ret (.ref (s.heap.push o).objs.size)))
        { s with heap := (s.heap.push o).push { cls := .type "enumerate", data := .fields #[.none, .bool false, .ref s.heap.objs.size, rawInt 0, .none, .none] } }) :=
  .of_wp fun prog w A R st hst => by
    obtain ⟨hp, g, d, tk, os⟩ := st
    obtain ⟨hG, hR⟩ := hst
    have hsub := sub_enumerate
    have begin1 : ∀ {A' : Around} {E : Value → Shared → Prop} {Q : Value → Shared → Prop}, Q (.ref hp.objs.size) ⟨hp.push o, g, d, tk, os⟩ →
        wpAny (model prog w) A' (pyIter v) Q E ⟨hp, g, d, tk, os⟩ := fun q => B.iter prog w _ _ ⟨hp, g, d, tk, os⟩ _ hG q
    wp_walk using begin1
    refine wpAny_stack_any fun frames => wpAny_pure ?_
    split
    · rename_i cl _ _ _ _ _
      cases (cl == Value.type "enumerate")
      · wp_walk using begin1
        exact ⟨_, rfl, hR⟩
      · wp_walk using begin1
        exact ⟨_, rfl, hR⟩
    · wp_walk using begin1
      exact ⟨_, rfl, hR⟩
theorem k14_call_enum {prog : Program} {w : World} {A : Around} {E : Value → Shared → Prop} {s : Shared} {v : Value} {o : Obj} {G : Heap → Prop} {Q : Value → Shared → Prop} (B : Begins v o G) (hG : G s.heap)
    (h : ∀ h', IsEnum h' (s.heap.objs.size + 1) s.heap.objs.size 0 .none → h'.get? s.heap.objs.size = some o →
      (∀ b u, s.heap.get? b = some u → h'.get? b = some u) → Q (.ref (s.heap.objs.size + 1)) { s with heap := h' }) :
    wpAny (model prog w) A (call (.type "enumerate") [v]) Q E s := by
  refine callType_new F.called_enumerate (by decide) (F.typeCall_enumerate_1 _) (F.newCall_enumerate_1 _) (fun obj => F.args_object_init_2 obj _) F.entry_enumerate_new
    (k14_new_enum B) ⟨hG, ?_⟩
  have size1 : (s.heap.push o).objs.size = s.heap.objs.size + 1 := Heap.size_push ..
  show _ ∧ _
  rw [size1]
  have isE : IsEnum ((s.heap.push o).push { cls := .type "enumerate", data := .fields #[.none, .bool false, .ref s.heap.objs.size, rawInt 0, .none, .none] })
      (s.heap.objs.size + 1) s.heap.objs.size 0 .none := by
    have z := Heap.get?_push_size (s.heap.push o) (o := { cls := .type "enumerate", data := .fields #[.none, .bool false, .ref s.heap.objs.size, rawInt 0, .none, .none] }) rfl
    rw [size1] at z
    exact z
  exact ⟨⟨_, isE, rfl⟩, h _ isE (Heap.get?_push_of_some _ (Heap.get?_push_size _ B.free)) fun b u e => Heap.get?_push_of_some _ (Heap.get?_push_of_some _ e)⟩
end PySem

namespace K14
open PySem PySem.Spec PyProof.Rows L2
/-- the tuple at a, each item in a new pair with its place -/
def EnT (K : PySem.W.Frag) (a : Addr) : It where
  go := fun i H => ∃ (xs : List V) (x : V), SqT K H a xs ∧ xs[i]? = some x
  yld := fun i H v H' => ∃ T x, v = .ref T ∧ H T = none ∧ H' = upd H T (.tup [.int (i : Nat), x]) ∧ ∀ xs, SqT K H a xs → xs[i]? = some x
  stop := fun i H => ∃ xs : List V, SqT K H a xs ∧ xs.length = i
/-- the iterator's own cells ahead of turn i -/
def EnSt (a e it : Addr) (i : Nat) (h : Heap) : Prop := (∃ old, IsEnum h e it ((i : Nat) : Int) old) ∧ h.IsTupleIter it a i ∧ e ≠ it
theorem en_apart {h : Heap} {a e it : Addr} {i : Nat} {its : Array Value} (st : EnSt a e it i h) (t : h.IsTuple a its) : a ≠ it ∧ e ≠ a := by
  obtain ⟨⟨old, he⟩, ⟨o, ho, hc, hd⟩, _⟩ := st
  obtain ⟨ot, hot, hct, n, hdt⟩ := t
  constructor
  · intro q
    rw [q, ho] at hot
    cases hot
    rw [hd] at hdt
    cases hdt
  · intro q
    have he' : h.get? e = some _ := he
    rw [q, hot] at he'
    cases he'
    cases hdt
theorem turn_enT {P : Program} {w : World} {K : PySem.W.Frag} {elts : List Expr} {kk : Nat} {tpos : Pos} (a e it : Addr) : Turn P w K (.Tuple elts kk tpos) (EnT K a) [e, it] e (EnSt a e it) where
  mem := List.mem_cons_self ..
  obj := by
    rintro i h ⟨⟨old, he⟩, ⟨o, ho, hc, hd⟩, _⟩ b hb
    rcases List.mem_cons.mp hb with q | q
    · rw [q]
      exact ⟨_, he, fun v z => nomatch z⟩
    · rw [List.mem_singleton.mp q]
      exact ⟨o, ho, fun v z => by rw [hd] at z; cases z⟩
  keep := by
    rintro i h h' ⟨⟨old, he⟩, hit, hne⟩ k
    exact ⟨⟨old, k e (List.mem_cons_self ..) _ he⟩, hit.at fun o q => k it (List.mem_cons_of_mem _ (List.mem_singleton.mpr rfl)) o q, hne⟩
  item := by
    intro X hP hw hK hc i pins s σ H E I hf st hg
    subst hP hw hK
    obtain ⟨xs, x, hq, hx⟩ := hg
    obtain ⟨its, rv, tp, _⟩ := I.tuple hq
    obtain ⟨u, hu, ru⟩ := rv.get hx
    have tp' : s.heap.IsTuple a its.toArray := tp
    obtain ⟨n1, n2⟩ := en_apart st tp'
    obtain ⟨⟨old, he⟩, hit, hne⟩ := id st
    have le : e < s.heap.objs.size := Heap.lt_size he
    have li : it < s.heap.objs.size := by
      obtain ⟨_, q, _⟩ := hit
      exact Heap.lt_size q
    have hlt : i < its.toArray.size := by
      obtain ⟨q, _⟩ := List.getElem?_eq_some_iff.mp hu
      rw [List.size_toArray]
      exact q
    have D := Draws.tuple (prog := X.prog) (w := X.w) (A := X.A.in1) (I.ok.hd hc) it a n1 its.toArray
    refine wpAny_pyNext_enum_itemC D he ⟨hit, tp'⟩ hlt hne (fun z => ?_) fun y h' tk hy ho hst hT hsz hk => ?_
    · rcases List.mem_cons.mp z with q | q
      · exact hne q
      · exact n2 (List.mem_singleton.mp q)
    have ey : y = u := by
      have hy' : its.toArray[i]? = some y := hy
      rw [List.getElem?_toArray, hu] at hy'
      exact (Option.some.inj hy').symm
    subst ey
    refine ⟨_, rfl, wpAny_letOwnedTupleGo_enum (s := { s with heap := h', toks := tk + 1 }) ho fun h2 he2 sb => ?_⟩
    have hT2 : h2.get? s.heap.objs.size = some { cls := .type "tuple", data := .seq #[.int i tk, y] } := (sb.2 _ (Nat.ne_of_gt le)).trans hT
    have new : ObjOk X.prog X.w (upd H s.heap.objs.size (.tup [.int (i : Nat), x])) h2 s.heap.objs.size (.tup [.int (i : Nat), x]) :=
      ⟨by show 2 ≤ sizeLine; decide, [.int i tk, y], .cons ⟨_, rfl⟩ (.cons ru .nil), ⟨_, hT2, rfl, _, rfl⟩⟩
    have kept : ∀ b ob, b ∉ [e, it] → s.heap.get? b = some ob → h2.get? b = some ob := fun b ob hb q => by
      have b1 : b ≠ e := fun z => hb (by rw [z]; exact List.mem_cons_self ..)
      have b2 : b ≠ it := fun z => hb (by rw [z]; exact List.mem_cons_of_mem _ (List.mem_singleton.mpr rfl))
      exact (sb.2 b b1).trans (hk b ob b1 b2 q)
    have I1 : Inv X pins σ (upd H s.heap.objs.size (.tup [.int (i : Nat), x])) { s with heap := h2, toks := tk + 1 } := I.turnedNew (ch := [e, it]) kept hf (Nat.le_refl _) new
    refine ⟨.ref s.heap.objs.size, _, I1, rfl, ⟨_, x, rfl, I.hok.fresh (Nat.le_refl _), rfl, fun ys hy => by rw [I.tuple_inj hy hq]; exact hx⟩, ⟨⟨y, ?_⟩, ?_, hne⟩, fun b hb => ?_⟩
    · have e1 : ((i + 1 : Nat) : Int) = (i : Int) + 1 := Int.natCast_succ i
      rw [e1]
      exact he2
    · exact hst.1.at fun o q => (sb.2 it (Ne.symm hne)).trans q
    · have lb : b < s.heap.objs.size := by
        rcases List.mem_cons.mp hb with q | q
        · rw [q]; exact le
        · rw [List.mem_singleton.mp q]; exact li
      rw [upd_ne (Nat.ne_of_lt lb)]
      exact (hf b hb).1
  done := by
    intro X hP hw hK hc i pins s σ H E I hf st hg
    subst hP hw hK
    obtain ⟨xs, hq, hx⟩ := hg
    obtain ⟨its, rv, tp, _⟩ := I.tuple hq
    have tp' : s.heap.IsTuple a its.toArray := tp
    obtain ⟨n1, n2⟩ := en_apart st tp'
    obtain ⟨⟨old, he⟩, hit, hne⟩ := id st
    obtain ⟨f0, f1, f2, f3, f4, f5⟩ := hf it (List.mem_cons_of_mem _ (List.mem_singleton.mpr rfl))
    have hl := rv.length
    have D := Draws.tuple (prog := X.prog) (w := X.w) (A := X.A.in1) (I.ok.hd hc) it a n1 (its.toArray)
    have ei : i = its.toArray.size := by
      rw [List.size_toArray, ← hl]
      exact hx.symm
    subst ei
    exact wpAny_pyNext_enum_endD D he ⟨hit, tp'⟩ fun h' eb => ⟨rfl, I.turned (t' := s.toks) (fun b o hb q => eb b o hb q) f0 f1 f3 f4 f5⟩
  self := by
    rintro A i s Q E ⟨⟨_, he⟩, _⟩ h
    exact wpAny_pyIter_enum he h
def iEnT (K : PySem.W.Frag) (ta : TA) : TI := fun σ H R => ta σ H fun vs H1 => ∃ a xs, vs = [.ref a] ∧ SqT K H1 a xs ∧ R (EnT K a) H1
theorem pi_enT {X : Cx} {e : Expr} {ta : TA} {p pos tpos : Pos} {elts : List Expr} {kk : Nat} (hg : Gl X "enumerate") (hm : X.mg "enumerate" = none) (ha : PA X [e] ta) (hs : starEach [e] X.env = [(false, eval e X.env)] := by rfl) :
    PI X (.Tuple elts kk tpos) (.Call (.Name "enumerate" p) [e] [] pos) (iEnT X.K ta) := by
  refine ⟨fun pins s σ H R I h => ?_⟩
  have run := ha.run pos pins s σ H _ I h
  refine Call_ (ld_blt I hg hm boot_enumerate (PyProof.Rows.callWith_type1 (thn run fun us s1 hq => ?_) hs rfl))
  obtain ⟨vs, H1, I1, r1, a, xs, ex, hx, q⟩ := hq
  subst ex
  cases r1 with
  | cons r rr =>
    cases rr
    cases r
    obtain ⟨its, rv, tp, _⟩ := I1.tuple hx
    refine k14_call_enum (begins_tuple a its.toArray) (show s1.heap.IsTuple a its.toArray from tp) fun h' he ho hk => wpAny_pyIter_enum he ?_
    have I2 : Inv X pins σ H1 { s1 with heap := h' } := I1.kept (t' := s1.toks) hk
    refine ⟨s1.heap.objs.size + 1, [s1.heap.objs.size + 1, s1.heap.objs.size], _, _, H1, rfl, I2, turn_enT a (s1.heap.objs.size + 1) s1.heap.objs.size, ⟨⟨.none, he⟩, ⟨_, ho, rfl, rfl⟩, Nat.succ_ne_self _⟩, fun b hb => ?_, q⟩
    have le : s1.heap.objs.size ≤ b := by
      rcases List.mem_cons.mp hb with z | z
      · rw [z]; exact Nat.le_succ _
      · rw [List.mem_singleton.mp z]; exact Nat.le_refl _
    exact I1.fpOk le (I1.hok.fresh le)
end K14

/-! KLeaves -/
namespace K14
open PySem PySem.Spec PyProof.Rows L2
theorem walk_enT {K : PySem.W.Frag} {a : Addr} {xs : List V} : Walk (EnT K a) xs.length (fun H => SqT K H a xs) (YPair (fun i => some (.int (i : Nat))) (fun i => xs[i]?)) := by
  refine ⟨fun i H hi q => ⟨xs, xs[i], q, List.getElem?_eq_getElem hi⟩, fun H q => ⟨xs, q, rfl⟩, fun i H v H' hi q y => ?_⟩
  obtain ⟨T, x, h1, h2, h3, h4⟩ := y
  exact ⟨T, .int (i : Nat), x, h1, h2, h3, rfl, h4 xs q⟩
theorem leaves_take (l : Lv) (rr : List Lv) (x : Tx) (j : Nat) : (((pieces l x).take j).flatMap (leavesOf rr)).length ≤ x.length := by
  have h1 := flatMap_len (leavesOf rr) ((pieces l x).take j) fun p hp => leaves_len rr p (pieces_ne l x p (List.mem_of_mem_take hp))
  have h2 : ((pieces l x).take j).flatten.length ≤ x.length := (ahead_pre l x j).length_le
  exact Nat.le_trans h1 h2
theorem scLeavesFrom : FnScope ["tree", "path", "made", "k", "inner"] ["tree", "path"] (defScope sLeavesFrom) :=
  ⟨rfl, rfl, rfl, by decide +kernel, rfl, by decide +kernel, by decide +kernel⟩
theorem scLeaves : FnScope ["tree"] ["tree"] (defScope sLeaves) :=
  ⟨rfl, rfl, rfl, by decide +kernel, rfl, by decide +kernel, by decide +kernel⟩
theorem scSewn : FnScope ["tree", "path", "text"] ["tree"] (defScope sSewn) :=
  ⟨rfl, rfl, rfl, by decide +kernel, rfl, by decide +kernel, by decide +kernel⟩
section
variable {P : Program} {w : World} {K : PySem.W.Frag} {mg : Str → Option Value} {base : Heap}
def spLF (n : Nat) : Sp := fun vs H Q _ => ∃ (x : Tx) (v : V) (rs : List Lv) (q0 : Addr) (ps : List V), vs = [v, .ref q0] ∧ CutAt H rs x v ∧ rs.length + 1 = n ∧ x.length ≤ 1000 ∧ H q0 = some (.tup ps) ∧ ps.length + n ≤ 1000 ∧
  ∀ r H' us, Same H H' → H' r = some (.lst us) → Paired (LeafAt H') us (leavesOf rs x) → Q (.ref r) H'
theorem lf_none {f : Addr} {fd : FuncData} {k : Nat} : FnOk P w K mg base CX0 k f fd ["tree", "path"] (spLF 0) := by
  have no : ∀ vs H Q E, ¬ spLF 0 vs H Q E := fun vs H Q E h => by
    obtain ⟨x, v, rs, _, _, _, _, h0, _⟩ := h
    omega
  exact ⟨fun vs H Q E h => absurd h (no vs H Q E), fun A outer s H args us vs Q E _ _ _ _ h => absurd h (no vs H Q E)⟩
theorem ok_lf {f : Addr} {fd : FuncData} {n : Nat} (F : Fun K "leaves_from" "leaves_from" sLeavesFrom f fd) (bF : Binds K fd ["tree", "path"] []) (gF : mg "leaves_from" = some (.ref f))
    (GF : FnOk P w K mg base CX0 n f fd ["tree", "path"] (spLF n)) (mi : mg "isinstance" = none) (ms : mg "str" = none) (me : mg "enumerate" = none) : FnOk P w K mg base CX0 (n + 1) f fd ["tree", "path"] (spLF (n + 1)) := by
  refine F.ok scLeavesFrom (fun vs H Q E h => ?_) (fun cdv A outer s H vs Q E hr h => ?_)
  · obtain ⟨x, v, rs, q0, ps, rfl, _⟩ := h
    rfl
  obtain ⟨x, v, rs, q0, ps, rfl, hc, hn, hx, hq0, hps, q⟩ := h
  refine ⟨_, pss_cons (ps_if (pt_val (pe_callB call_isi (by rfl) mi (by decide +kernel) (pa_cons (pv 0) (pa_cons (pe_bltn (v := .ty "str") (by rfl) ms (by decide +kernel) rfl) pa_nil))))
      (pss_one (ps_ret (pe_lst (pa_cons (pe_tup (pa_cons (pv 1) (pa_cons (pv 0) pa_nil))) pa_nil)))) pss_nil)
    (pss_cons (ps_set (i := 2) scLeavesFrom.nd rfl (.inl rfl) (pe_lst pa_nil))
    (pss_cons (ps_for PassesOwn.never rfl (pi_enT (by rfl) me (pa_cons (pv 0) pa_nil)) (pg_tup (by rfl) (pgs_cons (pg_name (i := 3) scLeavesFrom.nd rfl (.inl rfl)) (pgs_cons (pg_name (i := 4) scLeavesFrom.nd rfl (.inl rfl)) pgs_nil)))
      (pss_one (ps_set (i := 2) scLeavesFrom.nd rfl (.inl rfl) (pe_op op_cat (pv 2) (pe_call GF hr (by rfl) gF F.kp bF .nil pass0 (pa_cons (pv 4) (pa_cons (pe_op op_catA (pv 1) (pe_tup (pa_cons (pv 3) pa_nil))) pa_nil)))))))
    (pss_one (ps_ret (pv 2))))), ?_⟩
  cases rs with
  | nil =>
    have hv : v = sv x := hc
    subst hv
    refine ⟨sv x, rfl, sv x, .ty "str", .type "str", .type "str", true, rfl, .ty "str", .base (.str _), kit_ty (by decide +kernel), true, rfl, ?_⟩
    refine iteT ⟨.ref q0, rfl, sv x, rfl, by show 2 ≤ sizeLine; decide, fun t nt => ?_⟩
    refine ⟨by show 1 ≤ sizeLine; decide, fun r nr => ?_⟩
    have sm1 := same_new nt (.tup [.ref q0, sv x])
    refine q r _ [.ref t] (sm1.trans (same_new nr _)) upd_same (.cons ⟨t, .ref q0, rfl, ?_⟩ .nil)
    exact same_new nr _ _ _ upd_same
  | cons l rr =>
    obtain ⟨p, us, rfl, hp, hus⟩ := hc
    have hn : rr.length + 1 = n := Nat.succ.inj hn
    refine ⟨.ref p, rfl, .ref p, .ty "str", .type "tuple", .type "str", false, rfl, .ty "str", .base (.tup hp), kit_ty (by decide +kernel), false, rfl, ?_⟩
    refine iteF ?_
    refine ⟨Nat.zero_le _, fun o no => ?_⟩
    have hp1 := same_new no (.lst []) _ _ hp
    have hlen := hus.length
    refine ⟨.ref p, rfl, p, us, rfl, SqT.of hp1, for_it (walk_enT (xs := us)) (fun j σ H' => ∃ (m : Addr) (acc : List V) (y3 y4 : Option V), σ = [some (.ref p), some (.ref q0), some (.ref m), y3, y4] ∧ Same H H' ∧ H' m = some (.lst acc) ∧ Paired (LeafAt H') acc (((pieces l x).take j).flatMap (leavesOf rr)))
      ⟨o, [], none, none, rfl, same_new no _, upd_same, .nil⟩ (fun j σ H' _ h => ?_) (fun j u σ H' H2 hj h hy => ?_) (fun σ H' h => ?_)⟩
    · obtain ⟨m, acc, y3, y4, rfl, sm, _⟩ := h
      exact SqT.of (sm _ _ hp)
    · obtain ⟨m, acc, y3, y4, rfl, sm, em, pd⟩ := h
      obtain ⟨T, k1, u1, rfl, nT, rfl, ek, eu⟩ := hy
      cases ek
      obtain ⟨y, hy, cy⟩ := pd_get hus eu
      have hyx : y.length ≤ 1000 := Nat.le_trans (piece_len l x (List.mem_of_getElem? hy)) hx
      refine ⟨T, _, rfl, SqT.of upd_same, rfl, .int (j : Nat), [u1], rfl, u1, [], rfl, rfl, ?_⟩
      have sT := same_new nT (.tup [.int (j : Nat), u1])
      have key : ∀ (q2 : Addr) (H4 : Hp) (ps2 : List V), Same (upd H' T (.tup [.int (j : Nat), u1])) H4 → H4 q2 = some (.tup ps2) → ps2.length + n ≤ 1000 →
          spLF n [u1, .ref q2] H4 (fun z H5 => rCat (.ref m) z H5 (fun z2 H6 => ∃ (m : Addr) (acc : List V) (y3 y4 : Option V), ([some (.ref p), some (.ref q0), some z2, some (.int (j : Nat)), some u1] : L2.St) = [some (.ref p), some (.ref q0), some (.ref m), y3, y4] ∧ Same H H6 ∧ H6 m = some (.lst acc) ∧
            Paired (LeafAt H6) acc (((pieces l x).take (j + 1)).flatMap (leavesOf rr)))) E0 := by
        intro q2 H4 ps2 s4 e4 l4
        refine ⟨y, u1, rr, q2, ps2, rfl, CutAt.tups (tups_of (sm.trans (sT.trans s4))) cy, hn, hyx, e4, l4, fun r H5 us2 s5 e5 pd5 => ?_⟩
        have s15 : Same H' H5 := sT.trans (s4.trans s5)
        have efl : ((pieces l x).take (j + 1)).flatMap (leavesOf rr) = ((pieces l x).take j).flatMap (leavesOf rr) ++ leavesOf rr y := by
          rw [List.take_add_one, hy, List.flatMap_append]
          show _ ++ (leavesOf rr y ++ []) = _
          rw [List.append_nil]
        refine ⟨m, r, acc, us2, rfl, rfl, s15 _ _ em, e5, ?_, fun m2 nm2 => ?_⟩
        · have z1 := pd.length
          have z2 := pd5.length
          have z3 := leaves_take l rr x (j + 1)
          rw [efl, List.length_append] at z3
          exact line1000 (by omega)
        · refine ⟨m2, acc ++ us2, _, _, rfl, sm.trans (s15.trans (same_new nm2 _)), upd_same, ?_⟩
          rw [efl]
          exact pd_app (pd_mono pd fun _ _ h => LeafAt.tups (tups_of (s15.trans (same_new nm2 _))) h) (pd_mono pd5 fun _ _ h => LeafAt.tups (tups_new nm2 _) h)
      refine ⟨.ref m, rfl, u1, rfl, .ref q0, rfl, .int (j : Nat), rfl, by show 1 ≤ sizeLine; decide, fun t nt => ?_⟩
      have st := same_new nt (.tup [.int (j : Nat)])
      refine ⟨q0, t, ps, [.int (j : Nat)], rfl, rfl, SqT.of (st _ _ (sT _ _ (sm _ _ hq0))), SqT.of upd_same, ?_, fun e => ?_, (fun _ e => nomatch e), fun _ _ t2 nt2 => ?_⟩
      · show ps.length + 1 ≤ sizeLine
        exact line1000 (by omega)
      · exact key t _ [.int (j : Nat)] st upd_same (by rw [List.length_singleton]; omega)
      · exact key t2 _ (ps ++ [.int (j : Nat)]) (st.trans (same_new nt2 _)) upd_same (by rw [List.length_append, List.length_singleton]; omega)
    · obtain ⟨m, acc, y3, y4, rfl, sm, em, pd⟩ := h
      rw [hlen, List.take_length] at pd
      exact ⟨.ref m, rfl, q m H' acc sm em pd⟩
def spLeaves (n : Nat) : Sp := fun vs H Q _ => ∃ (x : Tx) (v : V) (rs : List Lv), vs = [v] ∧ CutAt H rs x v ∧ rs.length + 1 = n ∧ x.length ≤ 1000 ∧ n ≤ 1000 ∧
  ∀ r H' us, Same H H' → H' r = some (.tup us) → Paired (LeafAt H') us (leavesOf rs x) → Q (.ref r) H'
theorem ok_leaves {f fF : Addr} {fd fdF : FuncData} {n : Nat} (F : Fun K "leaves" "leaves" sLeaves f fd) (GF : FnOk P w K mg base CX0 n fF fdF ["tree", "path"] (spLF n)) (kF : PySem.W.keepIn K (.ref fF) = true) (bF : Binds K fdF ["tree", "path"] []) (gF : mg "leaves_from" = some (.ref fF))
    (mt : mg "tuple" = none) : FnOk P w K mg base CX0 (n + 1) f fd ["tree"] (spLeaves n) := by
  refine F.ok scLeaves (fun vs H Q E h => ?_) (fun cdv A outer s H vs Q E hr h => ?_)
  · obtain ⟨x, v, rs, rfl, _⟩ := h
    rfl
  obtain ⟨x, v, rs, rfl, hc, hn, hx, hn2, q⟩ := h
  refine ⟨_, pss_one (ps_ret (pe_callTy call_tuple_of (by rfl) mt (by decide +kernel) (pa_cons (pe_call GF hr (by rfl) gF kF bF .nil pass0 (pa_cons (pv 0) (pa_cons (pe_tup pa_nil) pa_nil))) pa_nil))), ?_⟩
  refine ⟨v, rfl, Nat.zero_le _, fun t nt => ?_⟩
  refine ⟨x, v, rs, t, [], rfl, CutAt.tups (tups_new nt _) hc, hn, hx, upd_same, by rw [List.length_nil]; omega, fun r H1 us sm e pd => ?_⟩
  refine ⟨r, us, rfl, .inl ⟨SqL.of e, fun t2 nt2 => ?_⟩⟩
  exact q t2 _ us ((same_new nt _).trans (sm.trans (same_new nt2 _))) upd_same (pd_mono pd fun _ _ h => LeafAt.tups (tups_new nt2 _) h)
def spSewn (n : Nat) : Sp := fun vs H Q _ => ∃ (x : Tx) (v : V) (rs : List Lv), vs = [v] ∧ CutAt H rs x v ∧ rs.length + 1 = n ∧ x.length ≤ 1000 ∧ n ≤ 1000 ∧ ∀ H', Same H H' → Q (sv x) H'
theorem ok_sewn {f fF : Addr} {fd fdF : FuncData} {n k : Nat} (F : Fun K "sewn" "sewn" sSewn f fd) (GF : FnOk P w K mg base CX0 k fF fdF ["tree"] (spLeaves n)) (kF : PySem.W.keepIn K (.ref fF) = true) (bF : Binds K fdF ["tree"] []) (gF : mg "leaves" = some (.ref fF)) :
    FnOk P w K mg base CX0 (k + 1) f fd ["tree"] (spSewn n) := by
  refine F.ok scSewn (fun vs H Q E h => ?_) (fun cdv A outer s H vs Q E hr h => ?_)
  · obtain ⟨x, v, rs, rfl, _⟩ := h
    rfl
  obtain ⟨x, v, rs, rfl, hc, hn, hx, hn2, q⟩ := h
  refine ⟨_, pss_one (ps_ret (pe_join pe_str (pe_lc (own := [("path", 1), ("text", 2)]) (g := gTup K 2 (gCons (gName 1) (gCons (gName 2) gNil))) (tt := tYes) rfl scSewn.nd
      (pi_tup (pe_call GF hr (by rfl) gF kF bF .nil pass0 (pa_cons (pv 0) pa_nil))) (blkOk_by (own := [("path", 1), ("text", 2)]) (N := ["tree", "path", "text"]) (sc := defScope sSewn) (by decide +kernel))
      (fun _ _ _ _ _ => pg_tup (by rfl) (pgs_cons (pg_name (i := 1) scSewn.nd rfl (.inl rfl)) (pgs_cons (pg_name (i := 2) scSewn.nd rfl (.inl rfl)) pgs_nil))) (fun _ _ _ _ _ => pts_nil) (fun _ _ _ _ _ => pv 2)))), ?_⟩
  refine ⟨⟨_, rfl⟩, v, rfl, x, v, rs, rfl, hc, hn, hx, hn2, fun r H1 us sm e pd => ?_⟩
  refine ⟨r, rfl, ⟨_, SqT.of e⟩, fun D nD => ?_⟩
  have hlen := pd.length
  have hll := leaves_len1 rs x
  refine lc_tup (xs := us) (fun j H2 => Same H1 H2 ∧ H2 D = some (.lst (((leavesOf rs x).take j).map sv))) ⟨same_new nD _, upd_same⟩ (fun j H2 _ h => SqT.of (h.1 _ _ e)) (fun j u H2 hu h => ?_) (fun H2 h => ?_)
  · obtain ⟨sm2, eD⟩ := h
    obtain ⟨y, hy, b, u1, rfl, hb⟩ := pd_get pd hu
    refine ⟨b, _, rfl, SqT.of (sm2 _ _ hb), rfl, u1, _, rfl, sv y, _, rfl, rfl, rfl, ?_⟩
    refine ⟨sv y, rfl, _, eD, ?_, same_upd2 nD sm2 _, ?_⟩
    · rw [List.length_map, List.length_take]
      exact Nat.lt_of_le_of_lt (Nat.min_le_right _ _) (by rw [sizeLine_eq]; omega)
    · rw [upd_same, List.take_add_one, hy, List.map_append]
      rfl
  · obtain ⟨sm2, eD⟩ := h
    rw [hlen, List.take_length] at eD
    rw [map_sv] at eD
    refine ⟨mk [], D, (leavesOf rs x).map mk, rfl, rfl, .inl (SqL.of eD), ?_, ?_⟩
    · rw [join_size, leaves_flat]
      omega
    · rw [join_sv, leaves_flat]
      exact q H2 (sm.trans sm2)
end
end K14

/-! KSame -/
namespace K14
open PySem PySem.Spec PyProof.Rows L2
theorem walk_zipT {K : PySem.W.Frag} {a b : Addr} {xs ys : List V} (hl : xs.length = ys.length) : Walk (RZ.ItzT K a b) xs.length (fun H => SqT K H a xs ∧ SqT K H b ys) (YPair (fun i => xs[i]?) (fun i => ys[i]?)) := by
  refine ⟨fun i H hi q => ?_, fun H q => ⟨xs, ys, q.1, q.2, .inl (Nat.le_refl _)⟩, fun i H v H' hi q y => ?_⟩
  · have hi2 : i < ys.length := by omega
    exact ⟨xs, ys, xs[i], ys[i], q.1, q.2, List.getElem?_eq_getElem hi, List.getElem?_eq_getElem hi2⟩
  · obtain ⟨T, x, z, h1, h2, h3, h4, h5⟩ := y
    exact ⟨T, x, z, h1, h2, h3, h4 xs q.1, h5 ys q.2⟩
theorem scSame : FnScope ["_law_told", "_law_due", "_law_one", "_law_other"] ["_law_told", "_law_due"] (defScope sSame) :=
  ⟨rfl, rfl, rfl, by decide +kernel, rfl, by decide +kernel, by decide +kernel⟩
section
variable {P : Program} {w : World} {K : PySem.W.Frag} {mg : Str → Option Value} {base : Heap}
def spSame (n : Nat) : Sp := fun vs H Q _ => ∃ (x : Tx) (v u : V) (rs : List Lv), vs = [v, u] ∧ CutAt H rs x v ∧ CutAt H rs x u ∧ rs.length + 1 = n ∧ x.length ≤ 1000 ∧ ∀ H', Same H H' → Q (.bl true) H'
theorem same_none {f : Addr} {fd : FuncData} {k : Nat} : FnOk P w K mg base CX0 k f fd ["_law_told", "_law_due"] (spSame 0) := by
  have no : ∀ vs H Q E, ¬ spSame 0 vs H Q E := fun vs H Q E h => by
    obtain ⟨x, v, u, rs, _, _, _, h0, _⟩ := h
    omega
  exact ⟨fun vs H Q E h => absurd h (no vs H Q E), fun A outer s H args us vs Q E _ _ _ _ h => absurd h (no vs H Q E)⟩
theorem ok_same {f : Addr} {fd : FuncData} {n : Nat} (F : Fun K "_law_same" "_law_same" sSame f fd) (bF : Binds K fd ["_law_told", "_law_due"] []) (gF : mg "_law_same" = some (.ref f))
    (GF : FnOk P w K mg base CX0 n f fd ["_law_told", "_law_due"] (spSame n)) (mi : mg "isinstance" = none) (mt : mg "tuple" = none) (ml : mg "len" = none) (ma : mg "all" = none) (mz : mg "zip" = none) (mb : mg "bool" = none) (ms : mg "str" = none) :
    FnOk P w K mg base CX0 (n + 1) f fd ["_law_told", "_law_due"] (spSame (n + 1)) := by
  refine F.ok scSame (fun vs H Q E h => ?_) (fun cdv A outer s H vs Q E hr h => ?_)
  · obtain ⟨x, v, u, rs, rfl, _⟩ := h
    rfl
  obtain ⟨x, v, u, rs, rfl, hv, hu, hn, hx, q⟩ := h
  refine ⟨_, pss_cons (ps_if (pt_val (pe_callB call_isi (by rfl) mi (by decide +kernel) (pa_cons (pv 1) (pa_cons (pe_bltn (v := .ty "tuple") (by rfl) mt (by decide +kernel) rfl) pa_nil))))
      (pss_cons (ps_if (PW.pt (pw_or (pt_not (pt_val (pe_callB call_isi (by rfl) mi (by decide +kernel) (pa_cons (pv 0) (pa_cons (pe_bltn (v := .ty "tuple") (by rfl) mt (by decide +kernel) rfl) pa_nil)))))
          (pw_or1 (pt_cmpR op_ne (pe_callB call_len_seq (by rfl) ml PySem.boot_len (pa_cons (pv 0) pa_nil)) (pe_callB call_len_seq (by rfl) ml PySem.boot_len (pa_cons (pv 1) pa_nil)) (nomark _)))))
        (pss_one (ps_ret pe_bl)) pss_nil)
      (pss_one (ps_ret (pe_callB (cr_all rfl) (by rfl) ma (by decide +kernel) (pa_cons
        (pe_lc (own := [("_law_one", 2), ("_law_other", 3)]) (g := gTup K 2 (gCons (gName 2) (gCons (gName 3) gNil))) (tt := tYes) rfl scSame.nd (RZ.pi_zipA (by rfl) mz (pa_cons (pv 0) (pa_cons (pv 1) pa_nil)))
          (blkOk_by (own := [("_law_one", 2), ("_law_other", 3)]) (N := ["_law_told", "_law_due", "_law_one", "_law_other"]) (sc := defScope sSame) (by decide +kernel))
          (fun _ _ _ _ _ => pg_tup (by rfl) (pgs_cons (pg_name (i := 2) scSame.nd rfl (.inl rfl)) (pgs_cons (pg_name (i := 3) scSame.nd rfl (.inl rfl)) pgs_nil))) (fun _ _ _ _ _ => pts_nil)
          (fun _ _ _ _ _ => pe_call GF hr (by rfl) gF F.kp bF .nil pass0 (pa_cons (pv 2) (pa_cons (pv 3) pa_nil)))) pa_nil))))) pss_nil)
    (pss_cons (ps_if (pt_val (pe_callB call_isi (by rfl) mi (by decide +kernel) (pa_cons (pv 1) (pa_cons (pe_bltn (v := .ty "bool") (by rfl) mb (by decide +kernel) rfl) pa_nil)))) pss_never pss_nil)
    (pss_cons (ps_if (pt_val (pe_callB call_isi (by rfl) mi (by decide +kernel) (pa_cons (pv 1) (pa_cons (pe_bltn (v := .ty "str") (by rfl) ms (by decide +kernel) rfl) pa_nil))))
      (pss_one (ps_ret (pe_and (pe_callB call_isi (by rfl) mi (by decide +kernel) (pa_cons (pv 0) (pa_cons (pe_bltn (v := .ty "str") (by rfl) ms (by decide +kernel) rfl) pa_nil))) (pe_one (pe_cmpR op_eq (pv 0) (pv 1) (nomark _)))))) pss_nil)
    (pss_one ps_never))), ?_⟩
  cases rs with
  | nil =>
    have ev : v = sv x := hv
    have eu : u = sv x := hu
    subst ev eu
    refine ⟨sv x, rfl, sv x, .ty "tuple", .type "str", .type "tuple", false, rfl, .ty "tuple", .base (.str _), kit_ty (by decide +kernel), false, rfl, iteF ?_⟩
    refine ⟨sv x, rfl, sv x, .ty "bool", .type "str", .type "bool", false, rfl, .ty "bool", .base (.str _), kit_ty (by decide +kernel), false, rfl, iteF ?_⟩
    refine ⟨sv x, rfl, sv x, .ty "str", .type "str", .type "str", true, rfl, .ty "str", .base (.str _), kit_ty (by decide +kernel), true, rfl, iteT ?_⟩
    refine ⟨sv x, rfl, sv x, .ty "str", .type "str", .type "str", true, rfl, .ty "str", .base (.str _), kit_ty (by decide +kernel), true, rfl, iteT ?_⟩
    refine ⟨sv x, rfl, sv x, rfl, rfl, ?_⟩
    rw [decide_eq_true rfl]
    exact q H (Same.refl H)
  | cons l rr =>
    obtain ⟨p, vs, rfl, hp, hvs⟩ := hv
    obtain ⟨p2, us, rfl, hp2, hus⟩ := hu
    have hn : rr.length + 1 = n := Nat.succ.inj hn
    have l1 := hvs.length
    have l2 := hus.length
    refine ⟨.ref p2, rfl, .ref p2, .ty "tuple", .type "tuple", .type "tuple", true, rfl, .ty "tuple", .base (.tup hp2), kit_ty (by decide +kernel), true, rfl, iteT ?_⟩
    refine ⟨.ref p, rfl, .ref p, .ty "tuple", .type "tuple", .type "tuple", true, rfl, .ty "tuple", .base (.tup hp), kit_ty (by decide +kernel), true, rfl, ?_⟩
    show if false = true then _ else _
    refine iteF ?_
    refine ⟨.ref p, rfl, p, vs, rfl, .inr (SqT.of hp), .ref p2, rfl, p2, us, rfl, .inr (SqT.of hp2), rfl, _, rfl, ?_⟩
    have e12 : V.int ((vs.length : Nat) : Int) = V.int ((us.length : Nat) : Int) := by rw [l1, l2]
    rw [decide_eq_true e12]
    show if false = true then _ else _
    refine iteF ?_
    refine ⟨_, rfl, _, rfl, p, p2, vs, us, rfl, .inr ⟨SqT.of hp, SqT.of hp2, fun D nD => ?_⟩⟩
    refine lc_it (walk_zipT (l1.trans l2.symm)) (fun j H2 => Same H H2 ∧ H2 D = some (.lst ((List.replicate j true).map V.bl))) ⟨same_new nD _, upd_same⟩ (fun j H2 _ h => ⟨SqT.of (h.1 _ _ hp), SqT.of (h.1 _ _ hp2)⟩) (fun j u H2 H3 hj h hy => ?_) (fun H2 h => ?_)
    · obtain ⟨sm, eD⟩ := h
      obtain ⟨T, v1, u1, rfl, nT, rfl, ev, eu⟩ := hy
      obtain ⟨y, hy, cy⟩ := pd_get hvs ev
      obtain ⟨y2, hy2, cy2⟩ := pd_get hus eu
      have ey : y2 = y := Option.some.inj (hy2.symm.trans hy)
      subst ey
      have hyx : y2.length ≤ 1000 := Nat.le_trans (piece_len l x (List.mem_of_getElem? hy)) hx
      have sT := same_new nT (.tup [v1, u1])
      refine ⟨T, _, rfl, SqT.of upd_same, rfl, v1, _, rfl, u1, _, rfl, rfl, rfl, ?_⟩
      refine ⟨v1, rfl, u1, rfl, y2, v1, u1, rr, rfl, CutAt.tups (tups_of (sm.trans sT)) cy, CutAt.tups (tups_of (sm.trans sT)) cy2, hn, hyx, fun H4 s4 => ?_⟩
      have s24 := sT.trans s4
      refine ⟨_, s24 _ _ eD, ?_, same_upd2 nD (sm.trans s24) _, ?_⟩
      · rw [List.length_map, List.length_replicate]
        have z := pieces_len l x
        exact small1000 (by omega)
      · rw [upd_same, List.replicate_succ', List.map_append]
        rfl
    · obtain ⟨sm, eD⟩ := h
      refine ⟨D, List.replicate vs.length true, rfl, SqL.of eD, ?_⟩
      have e : (List.replicate vs.length true).all id = true := List.all_eq_true.mpr fun b hb => (List.mem_replicate.mp hb).2
      rw [e]
      exact q H2 sm
end
end K14

/-! KPot -/
namespace K14
open PySem PySem.Spec PyProof.Rows L2
theorem scPot : FnScope ["_law_cell", "_law_seed_here", "_law_number"] ["_law_cell", "_law_seed_here"] (defScope sPot) :=
  ⟨rfl, rfl, rfl, by decide +kernel, rfl, by decide +kernel, by decide +kernel⟩
theorem scTake : FnScope ["_law_pot_here", "_law_many", "_law_value", "_law_twice"] ["_law_pot_here", "_law_many"] (defScope sTake) :=
  ⟨rfl, rfl, rfl, by decide +kernel, rfl, by decide +kernel, by decide +kernel⟩
theorem scSeed : FnScope ["_law_script", "_law_seed_here", "_law_cell"] ["_law_script"] (defScope sSeed) :=
  ⟨rfl, rfl, rfl, by decide +kernel, rfl, by decide +kernel, by decide +kernel⟩
section
variable {P : Program} {w : World} {K : PySem.W.Frag} {mg : Str → Option Value} {base : Heap}
def spPot : Sp := fun vs H Q _ => ∃ (c s : Int), vs = [.int c, .int s] ∧ 0 ≤ s ∧ s < 4611686018427387904 ∧ ∀ a H', H a = none → Same H H' → PotAt H' a → Q (.ref a) H'
theorem ok_pot {f : Addr} {fd : FuncData} {k : Nat} (F : Fun K "_law_pot" "_law_pot" sPot f fd) (ma : mg "abs" = none) (mi : mg "int" = none) : FnOk P w K mg base CX0 (k + 1) f fd ["_law_cell", "_law_seed_here"] spPot := by
  refine F.ok scPot (fun vs H Q E h => ?_) (fun cdv A outer s H vs Q E hr h => ?_)
  · obtain ⟨c, sd, rfl, _⟩ := h
    rfl
  obtain ⟨c, sd, rfl, h0, h1, q⟩ := h
  refine ⟨_, pss_cons (ps_set (i := 2) scPot.nd rfl (.inl rfl) (pe_op op_add (pe_op op_mul pe_int (pe_callB call_abs (by rfl) ma (by decide +kernel) (pa_cons (pv 0) pa_nil)))
      (pe_callTy call_int1 (by rfl) mi (by decide +kernel) (pa_cons (pe_cmpR op_lt (pv 0) pe_int (nomark _)) pa_nil))))
    (pss_cons (ps_if (pt_cmpR op_ge (pv 2) (pe_op op_pow pe_int pe_int) (nomark _)) (pss_one (ps_ret (pe_lst (pa_cons (pv 2) (pa_cons (pv 1) pa_nil))))) pss_nil)
    (pss_one (ps_ret (pe_lst (pa_cons pe_int (pa_cons (pe_op op_mod (pe_op op_add (pe_op op_add (pe_op op_mul (pv 1) pe_int) (pv 2)) pe_int) pe_int) pa_nil)))))), ?_⟩
  refine ⟨.int c, rfl, c, rfl, _, _, rfl, rfl, .inl ⟨by decide, by decide⟩, .int c, rfl, c, 0, rfl, rfl, .inr ⟨_, rfl, ?_⟩⟩
  refine ⟨_, _, rfl, rfl, ?_⟩
  have hnum : ∃ num : Int, 0 ≤ num ∧ 2 * (if c < 0 then -c else c) + (if decide (c < 0) = true then 1 else 0) = num := by
    refine ⟨_, ?_, rfl⟩
    split <;> split <;> omega
  obtain ⟨num, n0, en⟩ := hnum
  show tSeq _ _ _ _ _
  have step : ∀ N : Int, 0 ≤ N → (tSeq (tIfS (tTest (tOp (rI0 fun i j => .bl (decide (i ≥ j))) (tVar 2) (tOp (rI CPow fun i j => .int (i ^ j.toNat)) (tC (.int 10)) (tC (.int 18)))))
      (tRet (tLst (tCons (tVar 2) (tCons (tVar 1) tNil)))) tNext) (tRet (tLst (tCons (tC (.int 0)) (tCons (tOp (rI (fun _ j => 0 < j) fun i j => .int (i % j)) (tOp (rI0 fun i j => .int (i + j)) (tOp (rI0 fun i j => .int (i + j)) (tOp (rI CMul fun i j => .int (i * j)) (tVar 1) (tC (.int 1000003))) (tVar 2)) (tC (.int 7))) (tC (.int 2305843009213693951))) tNil)))))
      { nx := fun _ H' => Q .non H', rt := Q } [some (.int c), some (.int sd), some (.int N)] H := by
    intro N hN
    refine ⟨_, rfl, 10, 18, rfl, rfl, ⟨by decide, by decide, by decide⟩, N, _, rfl, rfl, _, rfl, ?_⟩
    refine ite2 (fun e => ?_) (fun e => ?_)
    · refine ⟨_, rfl, _, rfl, by show 2 ≤ sizeLine; decide, fun a na => ?_⟩
      exact q a _ na (same_new na _) ⟨N, sd, upd_same, hN, h0, h1⟩
    · refine ⟨_, rfl, _, _, rfl, rfl, .inr ⟨by decide, by decide⟩, _, rfl, _, _, rfl, rfl, _, _, rfl, rfl, _, _, rfl, rfl, (by show (0 : Int) < 2305843009213693951; decide), ?_⟩
      refine ⟨by show 2 ≤ sizeLine; decide, fun a na => ?_⟩
      have z1 := Int.emod_nonneg (sd * 1000003 + N + 7) (show (2305843009213693951 : Int) ≠ 0 by decide)
      have z2 := Int.emod_lt_of_pos (sd * 1000003 + N + 7) (show (0 : Int) < 2305843009213693951 by decide)
      exact q a _ na (same_new na _) ⟨0, _, upd_same, Int.le_refl 0, z1, by omega⟩
  have z := step _ n0
  rw [← en] at z
  exact z
def spTake : Sp := fun vs H Q _ => ∃ (a : Addr) (m : Int), vs = [.ref a, .int m] ∧ PotAt H a ∧ 0 < m ∧ m < 1073741824 ∧ ∀ v H', 0 ≤ v → v < m → Keep a H H' → PotAt H' a → Q (.int v) H'
theorem ok_take {f : Addr} {fd : FuncData} {k : Nat} (F : Fun K "_law_take" "_law_take" sTake f fd) : FnOk P w K mg base CX0 (k + 1) f fd ["_law_pot_here", "_law_many"] spTake := by
  refine F.ok scTake (fun vs H Q E h => ?_) (fun cdv A outer s H vs Q E hr h => ?_)
  · obtain ⟨a, m, rfl, _⟩ := h
    rfl
  obtain ⟨a, m, rfl, ⟨x, y, ea, hx, hy, hy2⟩, h0, h1, q⟩ := h
  refine ⟨_, pss_cons (ps_if (pt_cmpR op_gt (pe_ix ix_list (pv 0) pe_int (fun _ _ => rfl)) pe_int (nomark _))
      (pss_cons (ps_set (i := 2) scTake.nd rfl (.inl rfl) (pe_op op_mod (pe_ix ix_list (pv 0) pe_int (fun _ _ => rfl)) (pv 1)))
      (pss_cons (ps_asg (pe_op op_fdiv (pe_ix ix_list (pv 0) pe_int (fun _ _ => rfl)) (pv 1)) (pg_sub (pv 0) pe_int set_list))
      (pss_one (ps_ret (pv 2))))) pss_nil)
    (pss_cons (ps_asg (pe_op op_mod (pe_op op_add (pe_op op_mul (pe_ix ix_list (pv 0) pe_int (fun _ _ => rfl)) pe_int) pe_int) pe_int) (pg_sub (pv 0) pe_int set_list))
    (pss_cons (ps_set (i := 3) scTake.nd rfl (.inl rfl) (pe_op op_mod (pe_op op_mul (pe_op op_mod (pe_ix ix_list (pv 0) pe_int (fun _ _ => rfl)) pe_int) (pe_op op_add (pe_op op_fdivW (pe_ix ix_list (pv 0) pe_int (fun _ _ => rfl)) pe_int) pe_int)) pe_int))
    (pss_one (ps_ret (pe_op op_mod (pe_op op_fdiv (pv 3) pe_int) (pv 1)))))), ?_⟩
  have sa : SqL K H a [.int x, .int y] := SqL.of ea
  refine ⟨.ref a, rfl, a, _, 0, .int x, rfl, rfl, sa, atI_nat (j := 0) rfl, x, 0, rfl, rfl, _, rfl, ?_⟩
  refine ite2 (fun c => ?_) (fun c => ?_)
  · refine ⟨.ref a, rfl, a, _, 0, .int x, rfl, rfl, sa, atI_nat (j := 0) rfl, .int m, rfl, x, m, rfl, rfl, h0, ?_⟩
    refine ⟨.ref a, rfl, a, _, 0, .int x, rfl, rfl, sa, atI_nat (j := 0) rfl, .int m, rfl, x, m, rfl, rfl, ⟨h0, h1⟩, ?_⟩
    refine ⟨.ref a, rfl, a, [.int x, .int y], 0, 0, rfl, rfl, ea, rfl, ?_⟩
    refine ⟨.int (x % m), rfl, ?_⟩
    exact q (x % m) _ (Int.emod_nonneg x (by omega)) (Int.emod_lt_of_pos x h0) keep_upd ⟨x / m, y, upd_same, Int.ediv_nonneg hx (by omega), hy, hy2⟩
  · refine ⟨.ref a, rfl, a, _, 1, .int y, rfl, rfl, sa, atI_nat (j := 1) rfl, y, _, rfl, rfl, .inr ⟨by decide, by decide⟩, _, _, rfl, rfl, _, _, rfl, rfl, (by show (0 : Int) < 2305843009213693951; decide), ?_⟩
    refine ⟨.ref a, rfl, a, [.int x, .int y], 1, 1, rfl, rfl, ea, rfl, ?_⟩
    have hz : ∃ z : Int, 0 ≤ z ∧ z < 2305843009213693951 ∧ (y * 1181783497276652981 + 12345678910987) % 2305843009213693951 = z :=
      ⟨_, Int.emod_nonneg _ (by decide), Int.emod_lt_of_pos _ (by decide), rfl⟩
    obtain ⟨z, z0, z1, ez⟩ := hz
    have e2 : (upd H a (.lst (([.int x, .int y] : List V).set 1 (.int ((y * 1181783497276652981 + 12345678910987) % 2305843009213693951))))) = upd H a (.lst [.int x, .int z]) := by
      rw [ez]
      rfl
    show tSeq _ _ _ _ (upd H a (.lst (([.int x, .int y] : List V).set 1 (.int ((y * 1181783497276652981 + 12345678910987) % 2305843009213693951)))))
    rw [e2]
    have sb : SqL K (upd H a (.lst [.int x, .int z])) a [.int x, .int z] := SqL.of upd_same
    have w0 := Int.emod_nonneg z (show (2147483629 : Int) ≠ 0 by decide)
    have w1 := Int.emod_lt_of_pos z (show (0 : Int) < 2147483629 by decide)
    refine ⟨.ref a, rfl, a, _, 1, .int z, rfl, rfl, sb, atI_nat (j := 1) rfl, z, 2147483629, rfl, rfl, (by show (0 : Int) < 2147483629; decide), ?_⟩
    refine ⟨.ref a, rfl, a, _, 1, .int z, rfl, rfl, sb, atI_nat (j := 1) rfl, z, 2147483629, rfl, rfl, ⟨by decide, by decide +kernel⟩, ?_⟩
    refine ⟨_, _, rfl, rfl, _, _, rfl, rfl, .inl ⟨by omega, by omega⟩, _, _, rfl, rfl, (by show (0 : Int) < 2305843009213693951; decide), ?_⟩
    refine ⟨_, rfl, _, 1009, rfl, rfl, ⟨by decide, by decide⟩, .int m, rfl, _, m, rfl, rfl, h0, ?_⟩
    exact q _ _ (Int.emod_nonneg _ (by omega)) (Int.emod_lt_of_pos _ h0) keep_upd ⟨x, z, upd_same, hx, z0, by omega⟩
def spSeed (K : PySem.W.Frag) : Sp := fun vs H Q _ => ∃ (a : Addr) (ns : List Int), vs = [.ref a] ∧ SqL K H a (ns.map V.int) ∧ ∀ s H', Same H H' → 0 ≤ s → s < 2305843009213693951 → Q (.int s) H'
theorem ok_seed {f : Addr} {fd : FuncData} {k : Nat} (F : Fun K "_law_seed" "_law_seed" sSeed f fd) : FnOk P w K mg base CX0 (k + 1) f fd ["_law_script"] (spSeed K) := by
  refine F.ok scSeed (fun vs H Q E h => ?_) (fun cdv A outer s H vs Q E hr h => ?_)
  · obtain ⟨a, ns, rfl, _⟩ := h
    rfl
  obtain ⟨a, ns, rfl, ha, q⟩ := h
  refine ⟨_, pss_cons (ps_set (i := 1) scSeed.nd rfl (.inl rfl) pe_int)
    (pss_cons (ps_for PassesOwn.never rfl (pi_list (pe_slice sl_list (pv 0) po_none (po_some pe_int))) (pg_name (i := 2) scSeed.nd rfl (.inl rfl))
      (pss_one (ps_set (i := 1) scSeed.nd rfl (.inl rfl) (pe_op op_mod (pe_op op_add (pe_op op_add (pe_op op_mul (pv 1) pe_int) (pe_op op_mod (pv 2) (pe_op op_pow pe_int pe_int))) pe_int) pe_int))))
    (pss_one (ps_ret (pv 1)))), ?_⟩
  refine ⟨.ref a, rfl, 63, rfl, a, _, rfl, ha, fun p np => ?_⟩
  have ecut : cutV (ns.map V.int) none (some 63) = (ns.take 63).map V.int := by
    have z := cutV_to (ns.map V.int) 63
    rw [List.map_take]
    exact z
  rw [ecut]
  refine ⟨p, rfl, ⟨_, SqL.of upd_same⟩, for_list (xs := (ns.take 63).map V.int) (fun j σ H' => H' = upd H p (.lst ((ns.take 63).map V.int)) ∧ ∃ (sd : Int) (y2 : Option V), σ = [some (.ref a), some (.int sd), y2] ∧ 0 ≤ sd ∧ sd < 2305843009213693951)
    ⟨rfl, 1000003, none, rfl, by decide, by decide⟩ (fun j σ H' _ h => by rw [h.1]; exact SqL.of upd_same) (fun j v σ H' hv h => ?_) (fun σ H' h => ?_)⟩
  · obtain ⟨rfl, sd, y2, rfl, s0, s1⟩ := h
    rw [List.getElem?_map] at hv
    obtain ⟨c, hc, rfl⟩ := Option.map_eq_some_iff.mp hv
    refine ⟨_, rfl, sd, 7368787, rfl, rfl, .inl ⟨by omega, by omega⟩, _, rfl, 10, 30, rfl, rfl, ⟨by decide, by decide, by decide⟩, c, _, rfl, rfl, (by show (0 : Int) < (10 : Int) ^ (30 : Int).toNat; decide), _, _, rfl, rfl, _, 11, rfl, rfl, _, 2305843009213693951, rfl, rfl, (by show (0 : Int) < 2305843009213693951; decide), ?_⟩
    exact ⟨rfl, _, _, rfl, Int.emod_nonneg _ (by decide), Int.emod_lt_of_pos _ (by decide)⟩
  · obtain ⟨rfl, sd, y2, rfl, s0, s1⟩ := h
    exact ⟨_, rfl, q sd _ (same_new np _) s0 s1⟩
end
end K14

/-! KTextLaw -/
namespace K14
open PySem PySem.Spec PyProof.Rows L2
theorem scText : FnScope ["_law_pot_here", "_law_every", "_law_signs", "_law_size", "_law_k"] ["_law_pot_here"] (defScope sText) :=
  ⟨rfl, rfl, rfl, by decide +kernel, rfl, by decide +kernel, by decide +kernel⟩
/-- all signs, in the law's two halves -/
def everyA : Str := Str.ofString " !\"#$&'()*+,-./0123456789:;<=>?@ABCDEFGHIJKLMNOPQRSTUVWXYZ[\\]^_`"
def everyB : Str := Str.ofString "abcdefghijklmnopqrstuvwxyz{|}~\n"
theorem every_len : (everyA ++ everyB).length = 95 := by decide +kernel
theorem every_room : everyA.length + everyB.length ≤ sizeLine := by decide +kernel
theorem sign_at (v : Int) (h0 : 0 ≤ v) (h1 : v < 4) : ∃ z : Str, 0 < z.length ∧ z.length ≤ 200 ∧ atI ([.str (Str.ofString "ab"), .str (Str.ofString "ab. \n"), .str (Str.ofString "aB1 .,-\n"), .str (everyA ++ everyB)] : List V) v = some (.str z) := by
  have c : v = 0 ∨ v = 1 ∨ v = 2 ∨ v = 3 := by omega
  rcases c with rfl | rfl | rfl | rfl
  · exact ⟨_, by decide +kernel, by decide +kernel, rfl⟩
  · exact ⟨_, by decide +kernel, by decide +kernel, rfl⟩
  · exact ⟨_, by decide +kernel, by decide +kernel, rfl⟩
  · exact ⟨_, by rw [every_len]; decide, by rw [every_len]; decide, rfl⟩
theorem size_at (v : Int) (h0 : 0 ≤ v) (h1 : v < 8) : ∃ z : Int, 0 < z ∧ z ≤ 401 ∧ atI ([.int 4, .int 13, .int 61, .int 25, .int 13, .int 61, .int 25, .int 401] : List V) v = some (.int z) := by
  have c : v = 0 ∨ v = 1 ∨ v = 2 ∨ v = 3 ∨ v = 4 ∨ v = 5 ∨ v = 6 ∨ v = 7 := by omega
  rcases c with rfl | rfl | rfl | rfl | rfl | rfl | rfl | rfl <;> exact ⟨_, by decide, by decide, rfl⟩
/-- a sign of a text at a place within -/
theorem cp_at (z : Str) (v : Int) (h0 : 0 ≤ v) (h1 : v < (z.length : Nat)) : ∃ c, atI z.cps.toList v = some c := by
  obtain ⟨j, rfl⟩ : ∃ j : Nat, v = (j : Int) := ⟨v.toNat, by omega⟩
  have hl : j < (TL.tl z).length := by
    rw [← TL.len_tl]
    omega
  exact ⟨_, atI_nat (List.getElem?_eq_getElem hl)⟩
theorem flat_ones : ∀ ys : List Tx, (∀ y ∈ ys, y.length = 1) → ys.flatten.length = ys.length
  | [], _ => rfl
  | y :: r, h => by
    rw [List.flatten_cons, List.length_append, List.length_cons, h y (List.mem_cons_self ..), flat_ones r fun z hz => h z (List.mem_cons_of_mem _ hz)]
    omega
/-- a new list of signs, in the mathematics of join -/
theorem app_one {ys : List Tx} {y : Tx} (h : ∀ z ∈ ys, z.length = 1) (hy : y.length = 1) : ∀ z ∈ ys ++ [y], z.length = 1 := fun z hz => by
  rcases List.mem_append.mp hz with e | e
  · exact h z e
  · rw [List.mem_singleton.mp e]
    exact hy
theorem PotAt.upd {H : Hp} {a p : Addr} {o : HO} (h : PotAt H a) (n : H p = none) : PotAt (L2.upd H p o) a := h.same (same_new n o)
section
variable {P : Program} {w : World} {K : PySem.W.Frag} {mg : Str → Option Value} {base : Heap}
def spText : Sp := fun vs H Q _ => ∃ (a : Addr), vs = [.ref a] ∧ PotAt H a ∧ ∀ x H', Keep a H H' → PotAt H' a → x.length ≤ 400 → Q (sv x) H'
theorem ok_text {f fT : Addr} {fd fdT : FuncData} {k : Nat} (F : Fun K "_law_text" "_law_text" sText f fd) (FT : Fun K "_law_take" "_law_take" sTake fT fdT) (bT : Binds K fdT ["_law_pot_here", "_law_many"] []) (gT : mg "_law_take" = some (.ref fT))
    (ml : mg "len" = none) (mr : mg "range" = none) : FnOk P w K mg base CX0 (k + 2) f fd ["_law_pot_here"] spText := by
  have GT : FnOk P w K mg base CX0 (k + 1) fT fdT ["_law_pot_here", "_law_many"] spTake := ok_take FT
  refine F.ok scText (fun vs H Q E h => ?_) (fun cdv A outer s H vs Q E hr h => ?_)
  · obtain ⟨a, rfl, _⟩ := h
    rfl
  obtain ⟨a, rfl, pa, q⟩ := h
  refine ⟨_, pss_cons (ps_set (i := 1) scText.nd rfl (.inl rfl) pe_str)
    (pss_cons (ps_set (i := 1) scText.nd rfl (.inl rfl) (pe_op op_add_str (pv 1) pe_str))
    (pss_cons (ps_set (i := 2) scText.nd rfl (.inr rfl) (pe_ix ix_list (pe_lst (pa_cons pe_str (pa_cons pe_str (pa_cons pe_str (pa_cons (pv 1) pa_nil))))) (pe_call GT hr (by rfl) gT FT.kp bT .nil pass0 (pa_cons (pv 0) (pa_cons pe_int pa_nil))) (fun _ _ => rfl)))
    (pss_cons (ps_set (i := 3) scText.nd rfl (.inl rfl) (pe_call GT hr (by rfl) gT FT.kp bT .nil pass0 (pa_cons (pv 0) (pa_cons
        (pe_ix ix_list (pe_lst (pa_cons pe_int (pa_cons pe_int (pa_cons pe_int (pa_cons pe_int (pa_cons pe_int (pa_cons pe_int (pa_cons pe_int (pa_cons pe_int pa_nil)))))))))
          (pe_call GT hr (by rfl) gT FT.kp bT .nil pass0 (pa_cons (pv 0) (pa_cons pe_int pa_nil))) (fun _ _ => rfl)) pa_nil))))
    (pss_one (ps_ret (pe_join pe_str (pe_lc (own := [("_law_k", 4)]) (g := gName 4) (tt := tYes) rfl scText.nd (pi_range1 (by rfl) mr (pa_cons (pv 3) pa_nil))
      (blkOk_by (own := [("_law_k", 4)]) (N := ["_law_pot_here", "_law_every", "_law_signs", "_law_size", "_law_k"]) (sc := defScope sText) (by decide +kernel))
      (fun _ _ _ _ _ => pg_name (i := 4) scText.nd rfl (Or.inl rfl)) (fun _ _ _ _ _ => pts_nil)
      (fun _ _ _ _ _ => pe_ix (r := rIxS) ix_str (pv 2) (pe_call GT hr (by rfl) gT FT.kp bT .nil pass0 (pa_cons (pv 0) (pa_cons (pe_callB call_len_str (by rfl) ml PySem.boot_len (pa_cons (pv 2) pa_nil)) pa_nil))) (fun _ _ => rfl))))))))), ?_⟩
  -- every
  refine ⟨_, rfl, everyA, everyB, rfl, rfl, every_room, ?_⟩
  -- signs
  refine ⟨.str (everyA ++ everyB), rfl, by show 4 ≤ sizeLine; decide, fun p np => ?_⟩
  refine ⟨.ref a, rfl, a, 4, rfl, pa.upd np, by decide, by decide, fun v H1 v0 v1 k1 p1 => ?_⟩
  obtain ⟨z, z0, z1, hz⟩ := sign_at v v0 v1
  refine ⟨p, _, v, .str z, rfl, rfl, SqL.of (k1 p _ (Ne.symm (pa.ne0 np)) upd_same), hz, ?_⟩
  -- size
  refine ⟨.ref a, rfl, by show 8 ≤ sizeLine; decide, fun p2 np2 => ?_⟩
  refine ⟨.ref a, rfl, a, 8, rfl, p1.upd np2, by decide, by decide, fun v2 H2 v20 v21 k2 pa2 => ?_⟩
  obtain ⟨m, m0, m1, hm⟩ := size_at v2 v20 v21
  refine ⟨p2, _, v2, .int m, rfl, rfl, SqL.of (k2 p2 _ (Ne.symm (p1.ne0 np2)) upd_same), hm, ?_⟩
  refine ⟨a, m, rfl, pa2, m0, by omega, fun n H3 n0 n1 k3 pa3 => ?_⟩
  have kall : Keep a H H3 := (keep_of (same_new np _)).trans (k1.trans ((keep_of (same_new np2 _)).trans (k2.trans k3)))
  -- the signs
  refine ⟨⟨_, rfl⟩, .int n, rfl, n, rfl, by omega, by omega, fun D nD => ?_⟩
  have naD : D ≠ a := Ne.symm (pa3.ne0 nD)
  refine lc_range (lo := 0) (n := n.toNat) (fun j H4 => ∃ ys : List Tx, Keep a H3 H4 ∧ PotAt H4 a ∧ H4 D = some (.lst (ys.map sv)) ∧ ys.length = j ∧ ∀ y ∈ ys, y.length = 1)
    ⟨[], keep_of (same_new nD _), pa3.upd nD, upd_same, rfl, fun y hy => nomatch hy⟩ (fun j H4 hj h => ?_) (fun H4 h => ?_)
  · obtain ⟨ys, k4, pa4, eD, ly, hy⟩ := h
    refine ⟨rfl, ?_⟩
    have hzl : z.length ≤ sizeLine := line1000 (by omega)
    refine ⟨.str z, rfl, .ref a, rfl, .str z, rfl, z, rfl, hzl, a, (z.length : Nat), rfl, pa4, by omega, by omega, fun u H5 u0 u1 k5 pa5 => ?_⟩
    obtain ⟨c, hc⟩ := cp_at z u u0 u1
    refine ⟨z, u, c, rfl, rfl, hzl, hc, ?_⟩
    refine ⟨ys.map sv, k5 D _ naD eD, ?_, ys ++ [[c]], fun b o nb e => ?_, ?_, ?_, ?_, app_one hy rfl⟩
    · rw [List.length_map]
      exact small1000 (by omega)
    · rw [upd_ne (ne_of_none e nD)]
      exact k5 b o nb (k4 b o nb e)
    · obtain ⟨x5, y5, e5, r5⟩ := pa5
      exact ⟨x5, y5, by rw [upd_ne (Ne.symm naD)]; exact e5, r5⟩
    · rw [upd_same, List.map_append]
      rfl
    · rw [List.length_append, List.length_singleton]
      omega
  · obtain ⟨ys, k4, pa4, eD, ly, hy⟩ := h
    have hfl := flat_ones ys hy
    rw [map_sv] at eD
    refine ⟨mk [], D, ys.map mk, rfl, rfl, .inl (SqL.of eD), ?_, ?_⟩
    · rw [join_size]
      omega
    · rw [join_sv]
      exact q _ H4 (kall.trans k4) pa4 (by omega)
end
end K14

/-! KMarks -/
namespace K14
open PySem PySem.Spec PyProof.Rows L2
theorem scMarks : FnScope ["_law_pot_here", "_law_text_here", "_law_some", "_law_k", "_law_size", "_law_at", "_law_sign"] ["_law_pot_here", "_law_text_here"] (defScope sMarks) :=
  ⟨rfl, rfl, rfl, by decide +kernel, rfl, by decide +kernel, by decide +kernel⟩
theorem scRules : FnScope ["_law_pot_here", "_law_text_here", "_law_many", "_law_k"] ["_law_pot_here", "_law_text_here", "_law_many"] (defScope sRules) :=
  ⟨rfl, rfl, rfl, by decide +kernel, rfl, by decide +kernel, by decide +kernel⟩
/-- the dict's keys are texts of at most 400 signs -/
def KeysOk (kvs : List (Key × V)) : Prop := ∀ kv ∈ kvs, ∃ y : Tx, kv.1 = Sum.inr (mk y) ∧ y.length ≤ 400
theorem keys_put {kvs : List (Key × V)} (h : KeysOk kvs) {y : Tx} (hy : y.length ≤ 400) (v : V) : KeysOk (putK kvs (Sum.inr (mk y)) v) := by
  unfold putK
  intro kv hk
  split at hk
  · obtain ⟨kv0, h0, e⟩ := List.mem_map.mp hk
    obtain ⟨z, e1, l1⟩ := h kv0 h0
    refine ⟨z, ?_, l1⟩
    rw [← e, ← e1]
    split <;> rfl
  · rcases List.mem_append.mp hk with e | e
    · exact h kv e
    · rw [List.mem_singleton.mp e]
      exact ⟨y, rfl, hy⟩
theorem keys_list : ∀ {kvs : List (Key × V)}, KeysOk kvs → ∃ ms : List Tx, (kvs.map fun kv => kV kv.1) = ms.map sv ∧ ∀ m ∈ ms, m.length ≤ 1000
  | [], _ => ⟨[], rfl, fun _ h => nomatch h⟩
  | kv :: r, h => by
    obtain ⟨y, e, l⟩ := h kv (List.mem_cons_self ..)
    obtain ⟨ms, e2, l2⟩ := keys_list fun kv' h' => h kv' (List.mem_cons_of_mem _ h')
    refine ⟨y :: ms, ?_, fun m hm => ?_⟩
    · rw [List.map_cons, List.map_cons, e2, e]
      rfl
    · rcases List.mem_cons.mp hm with q | q
      · rw [q]; omega
      · exact l2 m q
theorem many_at (v : Int) (h0 : 0 ≤ v) (h1 : v < 3) : ∃ z : Int, 0 < z ∧ z ≤ 13 ∧ atI ([.int 3, .int 5, .int 13] : List V) v = some (.int z) := by
  have c : v = 0 ∨ v = 1 ∨ v = 2 := by omega
  rcases c with rfl | rfl | rfl <;> exact ⟨_, by decide, by decide, rfl⟩
theorem two_at (v : Int) (h0 : 0 ≤ v) (h1 : v < 2) : ∃ z : Int, 0 < z ∧ z ≤ 8 ∧ atI ([.int 2, .int 8] : List V) v = some (.int z) := by
  have c : v = 0 ∨ v = 1 := by omega
  rcases c with rfl | rfl <;> exact ⟨_, by decide, by decide, rfl⟩
/-- what the law draws its own marks from -/
def drawnS : Str := Str.ofString " .,\nab-x"
theorem drawn_len : drawnS.length = 8 := by decide +kernel
theorem keep_upd2 {a d : Addr} {H H' : Hp} (nd : H d = none) (k : Keep a H H') (o : HO) : Keep a H (upd H' d o) := fun b u nb e => by
  rw [upd_ne (ne_of_none e nd)]
  exact k b u nb e
theorem PotAt.upd2 {H : Hp} {a d : Addr} (h : PotAt H a) (n : a ≠ d) (o : HO) : PotAt (L2.upd H d o) a := by
  obtain ⟨x, y, e, r⟩ := h
  exact ⟨x, y, by rw [upd_ne n]; exact e, r⟩
/-- 'c and t' as a test that may draw: both ways behind it -/
theorem split_and {a : Addr} {H : Hp} {c : Bool} {t : TT} {σ : L2.St} {A B : Hp → Prop} (hA : c = true → ∀ H5, Keep a H H5 → PotAt H5 a → A H5) (hB : ∀ H5, Keep a H H5 → PotAt H5 a → B H5)
    (test : ∀ R : Bool → Hp → Prop, (∀ b H5, Keep a H H5 → PotAt H5 a → R b H5) → t σ H R) (p : PotAt H a) :
    if c = true then t σ H (fun b H1 => if b = true then A H1 else B H1) else (if false = true then A H else B H) := by
  by_cases e : c = true
  · rw [if_pos e]
    refine test _ fun b H5 k5 p5 => ?_
    by_cases eb : b = true
    · rw [if_pos eb]
      exact hA e H5 k5 p5
    · rw [if_neg eb]
      exact hB H5 k5 p5
  · rw [if_neg e]
    exact iteF (hB H (Keep.refl a H) p)
section
variable {P : Program} {w : World} {K : PySem.W.Frag} {mg : Str → Option Value} {base : Heap}
def spMarks : Sp := fun vs H Q _ => ∃ (a : Addr) (x : Tx), vs = [.ref a, sv x] ∧ PotAt H a ∧ x.length ≤ 400 ∧
  ∀ (t : Addr) (ms : List Tx) (H' : Hp), Keep a H H' → PotAt H' a → H' t = some (.tup (ms.map sv)) → (∀ m ∈ ms, m.length ≤ 1000) → Q (.ref t) H'
theorem ok_marks {f fT : Addr} {fd fdT : FuncData} {k : Nat} (F : Fun K "_law_marks" "_law_marks" sMarks f fd) (FT : Fun K "_law_take" "_law_take" sTake fT fdT) (bT : Binds K fdT ["_law_pot_here", "_law_many"] []) (gT : mg "_law_take" = some (.ref fT))
    (ml : mg "len" = none) (mr : mg "range" = none) (mt : mg "tuple" = none) (mli : mg "list" = none) : FnOk P w K mg base CX0 (k + 2) f fd ["_law_pot_here", "_law_text_here"] spMarks := by
  have GT : FnOk P w K mg base CX0 (k + 1) fT fdT ["_law_pot_here", "_law_many"] spTake := ok_take FT
  refine F.ok scMarks (fun vs H Q E h => ?_) (fun cdv A outer s H vs Q E hr h => ?_)
  · obtain ⟨a, x, rfl, _⟩ := h
    rfl
  obtain ⟨a, x, rfl, pa, hx, q⟩ := h
  refine ⟨_, pss_cons (ps_set (i := 2) scMarks.nd rfl (.inl rfl) pe_dnewK)
    (pss_cons (ps_for PassesOwn.never rfl (pi_range1 (by rfl) mr (pa_cons (pe_call GT hr (by rfl) gT FT.kp bT .nil pass0 (pa_cons (pv 0) (pa_cons
          (pe_ix ix_list (pe_lst (pa_cons pe_int (pa_cons pe_int (pa_cons pe_int pa_nil)))) (pe_call GT hr (by rfl) gT FT.kp bT .nil pass0 (pa_cons (pv 0) (pa_cons pe_int pa_nil))) (fun _ _ => rfl)) pa_nil))) pa_nil))
        (pg_name (i := 3) scMarks.nd rfl (.inl rfl))
      (pss_cons (ps_set (i := 4) scMarks.nd rfl (.inl rfl) (pe_op op_add pe_int (pe_call GT hr (by rfl) gT FT.kp bT .nil pass0 (pa_cons (pv 0) (pa_cons
          (pe_ix ix_list (pe_lst (pa_cons pe_int (pa_cons pe_int pa_nil))) (pe_call GT hr (by rfl) gT FT.kp bT .nil pass0 (pa_cons (pv 0) (pa_cons pe_int pa_nil))) (fun _ _ => rfl)) pa_nil)))))
      (pss_one (ps_if (PW.pt (pw_and (pt_cmpR op_ne (pv 1) pe_str (nomark _)) (pw_and1 (pt_cmpR op_gt (pe_call GT hr (by rfl) gT FT.kp bT .nil pass0 (pa_cons (pv 0) (pa_cons pe_int pa_nil))) pe_int (nomark _)))))
        (pss_cons (ps_set (i := 5) scMarks.nd rfl (.inl rfl) (pe_call GT hr (by rfl) gT FT.kp bT .nil pass0 (pa_cons (pv 0) (pa_cons (pe_callB call_len_str (by rfl) ml PySem.boot_len (pa_cons (pv 1) pa_nil)) pa_nil))))
        (pss_one (ps_dput (hu_of hr) (pv 2) (pe_slice sl_str (pv 1) (po_some (pv 5)) (po_some (pe_op op_add (pv 5) (pv 4)))) pe_bl rfl)))
        (pss_one (ps_dput (hu_of hr) (pv 2) (pe_join pe_str (pe_lc (own := [("_law_sign", 6)]) (g := gName 6) (tt := tYes) rfl scMarks.nd (pi_range1 (by rfl) mr (pa_cons (pv 4) pa_nil))
          (blkOk_by (own := [("_law_sign", 6)]) (N := ["_law_pot_here", "_law_text_here", "_law_some", "_law_k", "_law_size", "_law_at", "_law_sign"]) (sc := defScope sMarks) (by decide +kernel))
          (fun _ _ _ _ _ => pg_name (i := 6) scMarks.nd rfl (Or.inl rfl)) (fun _ _ _ _ _ => pts_nil)
          (fun _ _ _ _ _ => pe_ix (r := rIxS) ix_str pe_str (pe_call GT hr (by rfl) gT FT.kp bT .nil pass0 (pa_cons (pv 0) (pa_cons pe_int pa_nil))) (fun _ _ => rfl)))) pe_bl rfl))))))
    (pss_one (ps_ret (pe_callTy call_tuple_of (by rfl) mt (by decide +kernel) (pa_cons (pe_callTy (call_list_dK rfl) (by rfl) mli (by decide +kernel) (pa_cons (pv 2) pa_nil)) pa_nil))))), ?_⟩
  have xs1 : (mk x).length ≤ sizeLine := by
    rw [mk_len]
    exact line1000 (by omega)
  refine fun d nd => ?_
  have nad : a ≠ d := pa.ne0 nd
  -- range(..)
  refine ⟨.ref a, rfl, by show 3 ≤ sizeLine; decide, fun p np => ?_⟩
  have pa0 : PotAt (upd H d (.dK [])) a := pa.upd nd
  refine ⟨.ref a, rfl, a, 3, rfl, pa0.upd np, by decide, by decide, fun v H1 v0 v1 k1 p1 => ?_⟩
  obtain ⟨m, m0, m1, hm⟩ := many_at v v0 v1
  refine ⟨p, _, v, .int m, rfl, rfl, SqL.of (k1 p _ (Ne.symm (pa0.ne0 np)) upd_same), hm, ?_⟩
  refine ⟨a, m, rfl, p1, m0, by omega, fun n H2 n0 n1 k2 p2 => ?_⟩
  have kall : Keep a (upd H d (.dK [])) H2 := (keep_of (same_new np _)).trans (k1.trans k2)
  refine ⟨n, rfl, by omega, by omega, for_range (lo := 0) (n := n.toNat) (fun j σ H' => ∃ (kvs : List (Key × V)) (y3 y4 y5 y6 : Option V), σ = [some (.ref a), some (sv x), some (.ref d), y3, y4, y5, y6] ∧ Keep a H H' ∧ PotAt H' a ∧ H' d = some (.dK kvs) ∧ KeysOk kvs ∧ kvs.length ≤ j)
    ⟨[], none, none, none, none, rfl, (keep_of (same_new nd _)).trans kall, p2, kall d _ (Ne.symm nad) upd_same, fun _ h => (nomatch h), Nat.le_refl _⟩ (fun j σ H' hj h => ?_) (fun σ H' h => ?_)⟩
  · obtain ⟨kvs, y3, y4, y5, y6, rfl, kp, pp, ed, hk, hlk⟩ := h
    have hroom : kvs.length < sizeLine := small1000 (by omega)
    -- size
    refine ⟨.ref a, rfl, by show 2 ≤ sizeLine; decide, fun p3 np3 => ?_⟩
    refine ⟨.ref a, rfl, a, 2, rfl, pp.upd np3, by decide, by decide, fun v2 H3 v20 v21 k3 pa3 => ?_⟩
    obtain ⟨m2, m20, m21, hm2⟩ := two_at v2 v20 v21
    refine ⟨p3, _, v2, .int m2, rfl, rfl, SqL.of (k3 p3 _ (Ne.symm (pp.ne0 np3)) upd_same), hm2, ?_⟩
    refine ⟨a, m2, rfl, pa3, m20, by omega, fun s2 H4 s20 s21 k4 pa4 => ?_⟩
    refine ⟨1, s2, rfl, rfl, ?_⟩
    have k04 : Keep a H' H4 := (keep_of (same_new np3 _)).trans (k3.trans k4)
    -- what follows when the key y is put
    have put : ∀ (y : Tx) (H5 : Hp) (z5 z6 : Option V), y.length ≤ 400 → Keep a H4 H5 → PotAt H5 a →
        ∃ (a' : Addr) (H6 : Hp), V.ref d = .ref a' ∧ DPut H5 a' (sv y) (.bl true) H6 ∧ ∃ (kvs : List (Key × V)) (y3 y4 y5 y6 : Option V), ([some (.ref a), some (sv x), some (.ref d), some (.int (0 + (j : Int))), some (.int (1 + s2)), z5, z6] : L2.St) = [some (.ref a), some (sv x), some (.ref d), y3, y4, y5, y6] ∧ Keep a H H6 ∧ PotAt H6 a ∧ H6 d = some (.dK kvs) ∧ KeysOk kvs ∧ kvs.length ≤ j + 1 := by
      intro y H5 z5 z6 hy k5 p5
      have ed5 : H5 d = some (.dK kvs) := k5 d _ (Ne.symm nad) (k04 d _ (Ne.symm nad) ed)
      refine ⟨d, _, rfl, DPut.k (k := Sum.inr (mk y)) ed5 hroom, _, _, _, _, _, rfl, keep_upd2 nd (kp.trans (k04.trans k5)) _, p5.upd2 nad _, upd_same, keys_put hk hy _, ?_⟩
      exact Nat.le_trans (length_putK _ _ _) (Nat.succ_le_succ hlk)
    refine ⟨sv x, rfl, rfl, _, rfl, ?_⟩
    show if (!decide (sv x = sv [])) = true then _ else _
    rw [sv_eq]
    refine split_and (a := a) (fun hc H5 k5 p5 => ?_) (fun H5 k5 p5 => ?_) (fun R hR => ?_) pa4
    · have hne : x ≠ [] := fun e => by
        rw [e] at hc
        exact absurd hc (by decide)
      have hpos : 0 < x.length := List.length_pos_iff.mpr hne
      refine ⟨.ref a, rfl, sv x, rfl, mk x, rfl, xs1, a, ((mk x).length : Nat), rfl, p5, by rw [mk_len]; omega, by rw [mk_len]; omega, fun at1 H6 a0 a1 k6 p6 => ?_⟩
      refine ⟨.ref d, rfl, sv x, rfl, .int at1, rfl, at1, rfl, .int at1, rfl, .int (1 + s2), rfl, at1, 1 + s2, rfl, rfl, at1 + (1 + s2), rfl, mk x, rfl, xs1, ?_⟩
      obtain ⟨y, ey, ly⟩ := cut_any x (some at1) (some (at1 + (1 + s2)))
      rw [ey]
      exact put y H6 _ _ (by omega) (k5.trans k6) p6
    · refine ⟨.ref d, rfl, ⟨_, rfl⟩, .int (1 + s2), rfl, 1 + s2, rfl, by omega, by omega, fun D nD => ?_⟩
      have naD : D ≠ a := Ne.symm (p5.ne0 nD)
      refine lc_range (lo := 0) (n := (1 + s2).toNat) (fun j H6 => ∃ ys : List Tx, Keep a H5 H6 ∧ PotAt H6 a ∧ H6 D = some (.lst (ys.map sv)) ∧ ys.length = j ∧ ∀ y ∈ ys, y.length = 1)
        ⟨[], keep_of (same_new nD _), p5.upd nD, upd_same, rfl, fun y hy => nomatch hy⟩ (fun i H6 hi h => ?_) (fun H6 h => ?_)
      · obtain ⟨ys, k6, p6, eD, ly, hy⟩ := h
        refine ⟨rfl, ?_⟩
        refine ⟨.ref a, rfl, a, 8, rfl, p6, by decide, by decide, fun u H7 u0 u1 k7 p7 => ?_⟩
        obtain ⟨c, hc⟩ := cp_at drawnS u u0 (by rw [drawn_len]; exact u1)
        refine ⟨drawnS, u, c, rfl, rfl, by rw [drawn_len]; exact line1000 (by decide), hc, ?_⟩
        refine ⟨ys.map sv, k7 D _ naD eD, ?_, ys ++ [[c]], keep_upd2 nD (k6.trans k7) _, p7.upd2 (Ne.symm naD) _, ?_, ?_, app_one hy rfl⟩
        · rw [List.length_map]
          exact small1000 (by omega)
        · rw [upd_same, List.map_append]
          rfl
        · rw [List.length_append, List.length_singleton]
          omega
      · obtain ⟨ys, k6, p6, eD, ly, hy⟩ := h
        have hfl := flat_ones ys hy
        rw [map_sv] at eD
        refine ⟨mk [], D, ys.map mk, rfl, rfl, .inl (SqL.of eD), ?_, ?_⟩
        · rw [join_size]
          omega
        · rw [join_sv]
          exact put ys.flatten H6 _ _ (by omega) (k5.trans k6) p6
    · refine ⟨.ref a, rfl, a, 3, rfl, pa4, by decide, by decide, fun u H5 u0 u1 k5 p5 => ?_⟩
      exact ⟨u, 0, rfl, rfl, _, rfl, hR _ H5 k5 p5⟩
  · obtain ⟨kvs, y3, y4, y5, y6, rfl, kp, pp, ed, hk, hlk⟩ := h
    obtain ⟨ms, em, lm⟩ := keys_list hk
    refine ⟨.ref d, rfl, d, kvs, rfl, ed, fun l nl => ?_⟩
    refine ⟨l, _, rfl, .inl ⟨SqL.of upd_same, fun t nt => ?_⟩⟩
    refine q t ms _ (kp.trans (keep_of ((same_new nl _).trans (same_new nt _)))) ((pp.upd nl).upd nt) ?_ lm
    rw [upd_same, em]
end
end K14

/-! KRules -/
namespace K14
open PySem PySem.Spec PyProof.Rows L2
section
variable {P : Program} {w : World} {K : PySem.W.Frag} {mg : Str → Option Value} {base : Heap}
def spRules : Sp := fun vs H Q _ => ∃ (a : Addr) (x : Tx) (n : Int), vs = [.ref a, sv x, .int n] ∧ PotAt H a ∧ x.length ≤ 400 ∧ 0 ≤ n ∧ n ≤ 5 ∧
  ∀ (v : V) (rs : List Lv) (H' : Hp), Keep a H H' → PotAt H' a → RulesAt H' v rs → rs.length = n.toNat → (∀ l ∈ rs, SmallLv l) → Q v H'
theorem ok_rules {f fM : Addr} {fd fdM : FuncData} {k : Nat} (F : Fun K "_law_rules" "_law_rules" sRules f fd) (GM : FnOk P w K mg base CX0 k fM fdM ["_law_pot_here", "_law_text_here"] spMarks) (kM : PySem.W.keepIn K (.ref fM) = true)
    (bM : Binds K fdM ["_law_pot_here", "_law_text_here"] []) (gM : mg "_law_marks" = some (.ref fM)) (mr : mg "range" = none) (mt : mg "tuple" = none) : FnOk P w K mg base CX0 (k + 1) f fd ["_law_pot_here", "_law_text_here", "_law_many"] spRules := by
  refine F.ok scRules (fun vs H Q E h => ?_) (fun cdv A outer s H vs Q E hr h => ?_)
  · obtain ⟨a, x, n, rfl, _⟩ := h
    rfl
  obtain ⟨a, x, n, rfl, pa, hx, n0, n1, q⟩ := h
  refine ⟨_, pss_one (ps_ret (pe_callTy call_tuple_of (by rfl) mt (by decide +kernel) (pa_cons
    (pe_lc (own := [("_law_k", 3)]) (g := gName 3) (tt := tYes) rfl scRules.nd (pi_range1 (by rfl) mr (pa_cons (pv 2) pa_nil))
      (blkOk_by (own := [("_law_k", 3)]) (N := ["_law_pot_here", "_law_text_here", "_law_many", "_law_k"]) (sc := defScope sRules) (by decide +kernel))
      (fun _ _ _ _ _ => pg_name (i := 3) scRules.nd rfl (Or.inl rfl)) (fun _ _ _ _ _ => pts_nil)
      (fun _ _ _ _ _ => pe_tup (pa_cons (pe_call GM hr (by rfl) gM kM bM .nil pass0 (pa_cons (pv 0) (pa_cons (pv 1) pa_nil))) (pa_cons (pe_call GM hr (by rfl) gM kM bM .nil pass0 (pa_cons (pv 0) (pa_cons (pv 1) pa_nil))) pa_nil)))) pa_nil))), ?_⟩
  refine ⟨.int n, rfl, n, rfl, by omega, by omega, fun D nD => ?_⟩
  have naD : D ≠ a := Ne.symm (pa.ne0 nD)
  refine lc_range (lo := 0) (n := n.toNat) (fun j H2 => ∃ (acc : List V) (rs : List Lv), Keep a H H2 ∧ PotAt H2 a ∧ H2 D = some (.lst acc) ∧ Paired (LvAt H2) acc rs ∧ rs.length = j ∧ ∀ l ∈ rs, SmallLv l)
    ⟨[], [], keep_of (same_new nD _), pa.upd nD, upd_same, .nil, rfl, fun l hl => nomatch hl⟩ (fun j H2 hj h => ?_) (fun H2 h => ?_)
  · obtain ⟨acc, rs, k2, p2, eD, pd, lr, hs⟩ := h
    refine ⟨rfl, ?_⟩
    refine ⟨.ref a, rfl, sv x, rfl, a, x, rfl, p2, hx, fun t1 ms1 H3 k3 p3 e3 s3 => ?_⟩
    refine ⟨.ref a, rfl, sv x, rfl, a, x, rfl, p3, hx, fun t2 ms2 H4 k4 p4 e4 s4 => ?_⟩
    refine ⟨by show 2 ≤ sizeLine; decide, fun t nt => ?_⟩
    have k24 : Keep a H2 (upd H4 t (.tup [.ref t1, .ref t2])) := k3.trans (k4.trans (keep_of (same_new nt _)))
    have eD2 := k24 D _ naD eD
    refine ⟨acc, eD2, ?_, acc ++ [.ref t], rs ++ [(ms1, ms2)], keep_upd2 nD (k2.trans k24) _, (p4.upd nt).upd2 (Ne.symm naD) _, upd_same, ?_, ?_, fun l hl => ?_⟩
    · have z := pd.length
      exact small1000 (by omega)
    · have tD := tups_upd eD2 (.lst (acc ++ [.ref t]))
      refine pd_app (pd_mono pd fun _ _ h => LvAt.tups ((p2.tups k24).trans tD) h) (.cons ⟨t, t1, t2, rfl, tD _ _ upd_same, tD _ _ ?_, tD _ _ ?_⟩ .nil)
      · exact (p3.tups (k4.trans (keep_of (same_new nt _)))) _ _ e3
      · exact tups_new nt _ _ _ e4
    · rw [List.length_append, List.length_singleton]
      omega
    · rcases List.mem_append.mp hl with e | e
      · exact hs l e
      · rw [List.mem_singleton.mp e]
        exact ⟨s3, s4⟩
  · obtain ⟨acc, rs, k2, p2, eD, pd, lr, hs⟩ := h
    refine ⟨D, acc, rfl, .inl ⟨SqL.of eD, fun t nt => ?_⟩⟩
    exact q (.ref t) rs _ (k2.trans (keep_of (same_new nt _))) (p2.upd nt) ⟨t, acc, rfl, upd_same, pd_mono pd fun _ _ h => LvAt.tups (tups_new nt _) h⟩ lr hs
end
end K14

/-! KRight -/
namespace K14
open PySem PySem.Spec PyProof.Rows L2
theorem scRight : FnScope ["_law_text_here", "_law_rules_here", "_law_k", "_law_tree", "_law_ahead", "_law_inner"] ["_law_text_here", "_law_rules_here", "_law_k"] (defScope sRight) :=
  ⟨rfl, rfl, rfl, by decide +kernel, rfl, by decide +kernel, by decide +kernel⟩
section
variable {K : PySem.W.Frag} {H : Hp} {p : Addr} {us : List V} {Q : VK}
/-- t[:k] -/
theorem sl_take (hp : H p = some (.tup us)) (k : Nat) (q : ∀ (r : Addr) (H' : Hp), Same H H' → H' r = some (.tup (us.take k)) → Q (.ref r) H') : rSlA K (.ref p) none (some (k : Int)) H Q := by
  refine ⟨p, us, rfl, SqT.of hp, fun e => q p H (Same.refl H) ?_, fun _ r nr => q r _ (same_new nr _) ?_⟩
  · have e2 := e.2
    rw [HT.sIx_nat] at e2
    rw [hp, List.take_of_length_le (by omega)]
  · rw [upd_same, cutV_to]
/-- t[k:] -/
theorem sl_drop (hp : H p = some (.tup us)) (k : Nat) (q : ∀ (r : Addr) (H' : Hp), Same H H' → H' r = some (.tup (us.drop k)) → Q (.ref r) H') : rSlA K (.ref p) (some (k : Int)) none H Q := by
  refine ⟨p, us, rfl, SqT.of hp, fun e => q p H (Same.refl H) ?_, fun _ r nr => q r _ (same_new nr _) ?_⟩
  · have e1 := e.1
    rw [HT.sIx_nat] at e1
    by_cases c : us = []
    · rw [hp, c, List.drop_nil]
    · have l := List.length_pos_iff.mpr c
      have k0 : k = 0 := by omega
      rw [hp, k0, List.drop_zero]
  · rw [upd_same, cutV_from]
/-- t[i:j], whatever the bounds: some of its items -/
theorem sl_some (hp : H p = some (.tup us)) (lo hi : Option Int) (q : ∀ (r : Addr) (ys : List V) (H' : Hp), Same H H' → H' r = some (.tup ys) → (∀ y ∈ ys, y ∈ us) → ys.length ≤ us.length → Q (.ref r) H') : rSlA K (.ref p) lo hi H Q := by
  refine ⟨p, us, rfl, SqT.of hp, fun e => q p us H (Same.refl H) hp (fun _ h => h) (Nat.le_refl _), fun _ r nr => q r _ _ (same_new nr _) upd_same (fun y hy => ?_) (cutV_length us lo hi)⟩
  unfold cutV at hy
  exact List.mem_of_mem_drop (List.mem_of_mem_take hy)
end
section
variable {P : Program} {w : World} {K : PySem.W.Frag} {mg : Str → Option Value} {base : Heap}
def spRight (n : Nat) : Sp := fun vs H Q _ => ∃ (x : Tx) (v : V) (l : Lv) (rr : List Lv) (k : Nat), vs = [sv x, v, .int (k : Int)] ∧ RulesAt H v (l :: rr) ∧ rr.length + 1 = n ∧ (∀ m ∈ l :: rr, SmallLv m) ∧ x.length ≤ 1000 ∧ n ≤ 1000 ∧ k ≤ (pieces l x).length ∧
  ∀ H', Same H H' → Q (.bl true) H'
theorem ok_right {f fC fS fE : Addr} {fd fdC fdS fdE : FuncData} {n j : Nat} (F : Fun K "_law_right" "_law_right" sRight f fd)
    (GC : FnOk P w K mg base CX0 j fC fdC ["text", "rules"] (spCut n)) (kC : PySem.W.keepIn K (.ref fC) = true) (bC : Binds K fdC ["text", "rules"] []) (gC : mg "cut_up" = some (.ref fC))
    (GS : FnOk P w K mg base CX0 j fS fdS ["tree"] (spSewn n)) (kS : PySem.W.keepIn K (.ref fS) = true) (bS : Binds K fdS ["tree"] []) (gS : mg "sewn" = some (.ref fS))
    (GE : FnOk P w K mg base CX0 j fE fdE ["_law_told", "_law_due"] (spSame (n + 1))) (kE : PySem.W.keepIn K (.ref fE) = true) (bE : Binds K fdE ["_law_told", "_law_due"] []) (gE : mg "_law_same" = some (.ref fE))
    (ml : mg "len" = none) : FnOk P w K mg base CX0 (j + 1) f fd ["_law_text_here", "_law_rules_here", "_law_k"] (spRight n) := by
  refine F.ok scRight (fun vs H Q E h => ?_) (fun cdv A outer s H vs Q E hr h => ?_)
  · obtain ⟨x, v, l, rr, k, rfl, _⟩ := h
    rfl
  obtain ⟨x, v, l, rr, k, rfl, hv, hn, hs, hx, hn2, hk, q⟩ := h
  have hn3 : (l :: rr).length = n := hn
  refine ⟨_, pss_cons (ps_set (i := 3) scRight.nd rfl (.inl rfl) (pe_call GC hr (by rfl) gC kC bC .nil pass0 (pa_cons (pv 0) (pa_cons (pv 1) pa_nil))))
    (pss_cons (ps_set (i := 4) scRight.nd rfl (.inl rfl) (pe_join pe_str (pe_lc (own := [("_law_inner", 5)]) (g := gName 5) (tt := tYes) rfl scRight.nd (pi_tup (pe_slice sl_tupA (pv 3) po_none (po_some (pv 2))))
      (blkOk_by (own := [("_law_inner", 5)]) (N := ["_law_text_here", "_law_rules_here", "_law_k", "_law_tree", "_law_ahead", "_law_inner"]) (sc := defScope sRight) (by decide +kernel))
      (fun _ _ _ _ _ => pg_name (i := 5) scRight.nd rfl (Or.inl rfl)) (fun _ _ _ _ _ => pts_nil)
      (fun _ _ _ _ _ => pe_call GS hr (by rfl) gS kS bS .nil pass0 (pa_cons (pv 5) pa_nil)))))
    (pss_cons (ps_if (pt_cmpR op_ne (pe_slice sl_str (pv 0) po_none (po_some (pe_callB call_len_str (by rfl) ml PySem.boot_len (pa_cons (pv 4) pa_nil)))) (pv 4) (nomark _)) (pss_one (ps_ret pe_bl)) pss_nil)
    (pss_one (ps_ret (pe_and
      (pe_call GE hr (by rfl) gE kE bE .nil pass0 (pa_cons (pe_call GC hr (by rfl) gC kC bC .nil pass0 (pa_cons (pv 4) (pa_cons (pv 1) pa_nil))) (pa_cons (pe_slice sl_tupA (pv 3) po_none (po_some (pv 2))) pa_nil)))
      (pe_one (pe_call GE hr (by rfl) gE kE bE .nil pass0 (pa_cons
        (pe_call GC hr (by rfl) gC kC bC .nil pass0 (pa_cons (pe_slice sl_str (pv 0) (po_some (pe_callB call_len_str (by rfl) ml PySem.boot_len (pa_cons (pv 4) pa_nil))) po_none) (pa_cons (pv 1) pa_nil)))
        (pa_cons (pe_slice sl_tupA (pv 3) (po_some (pv 2)) po_none) pa_nil))))))))), ?_⟩
  have xs1 : (mk x).length ≤ sizeLine := by
    rw [mk_len]
    exact line1000 hx
  have hpre := ahead_pre l x k
  have hal : (ahead l x k).length ≤ x.length := hpre.length_le
  have als : (mk (ahead l x k)).length ≤ sizeLine := by
    rw [mk_len]
    exact line1000 (by omega)
  obtain ⟨pb1, pb2⟩ := pieces_both l x k
  -- tree
  refine ⟨_, rfl, v, rfl, x, v, l :: rr, rfl, hv, hn3, by omega, hs, hx, fun tv H1 s1 ct => ?_⟩
  obtain ⟨p, us, rfl, hp, hus⟩ := id ct
  have hlen := hus.length
  -- ahead
  refine ⟨⟨_, rfl⟩, .ref p, rfl, .int (k : Int), rfl, (k : Int), rfl, sl_take hp k fun r H2 s2 er => ?_⟩
  have hus2 : Paired (fun u y => CutAt H2 rr y u) (us.take k) ((pieces l x).take k) := pd_take k (pd_mono hus fun _ _ h => CutAt.tups (tups_of s2) h)
  have hlen2 := hus2.length
  refine ⟨r, rfl, ⟨_, SqT.of er⟩, fun D nD => ?_⟩
  refine lc_tup (xs := us.take k) (fun i H3 => Same H2 H3 ∧ H3 D = some (.lst ((((pieces l x).take k).take i).map sv))) ⟨same_new nD _, upd_same⟩ (fun i H3 _ h => SqT.of (h.1 _ _ er)) (fun i u H3 hu h => ?_) (fun H3 h => ?_)
  · obtain ⟨s3, eD⟩ := h
    obtain ⟨y, hy, cy⟩ := pd_get hus2 hu
    have hyx : y.length ≤ 1000 := Nat.le_trans (piece_len l x (List.mem_of_mem_take (List.mem_of_getElem? hy))) hx
    refine ⟨rfl, ?_⟩
    refine ⟨u, rfl, y, u, rr, rfl, CutAt.tups (tups_of s3) cy, hn, hyx, hn2, fun H4 s4 => ?_⟩
    refine ⟨_, s4 _ _ eD, ?_, same_upd2 nD (s3.trans s4) _, ?_⟩
    · rw [List.length_map, List.length_take, List.length_take]
      have z := pieces_len l x
      exact small1000 (by omega)
    · rw [upd_same, List.take_add_one, hy, List.map_append]
      rfl
  obtain ⟨s3, eD⟩ := h
  rw [hlen2, List.take_length, map_sv] at eD
  refine ⟨mk [], D, ((pieces l x).take k).map mk, rfl, rfl, .inl (SqL.of eD), ?_, ?_⟩
  · rw [join_size]
    show (ahead l x k).length ≤ _
    omega
  rw [join_sv]
  show tSeq _ _ _ _ _
  have s13 : Same H1 H3 := s2.trans s3
  -- text[:len(ahead)] != ahead
  refine ⟨sv x, rfl, sv (ahead l x k), rfl, mk (ahead l x k), rfl, als, ((mk (ahead l x k)).length : Nat), rfl, mk x, rfl, xs1, ?_⟩
  rw [mk_len, cut_to]
  have et : x.take (ahead l x k).length = ahead l x k := List.prefix_iff_eq_take.mp hpre |>.symm
  rw [et]
  refine ⟨_, rfl, rfl, _, rfl, ?_⟩
  show if (!decide (sv (ahead l x k) = sv (ahead l x k))) = true then _ else _
  rw [decide_eq_true rfl]
  refine iteF ?_
  -- the first look
  have hv3 : RulesAt H3 v (l :: rr) := RulesAt.tups (tups_of (s1.trans s13)) hv
  refine ⟨sv (ahead l x k), rfl, v, rfl, ahead l x k, v, l :: rr, rfl, hv3, hn3, by omega, hs, by omega, fun tv2 H4 s4 ct2 => ?_⟩
  refine ⟨.ref p, rfl, .int (k : Int), rfl, (k : Int), rfl, sl_take (s4 _ _ (s13 _ _ hp)) k fun r2 H5 s5 er2 => ?_⟩
  have s15 : Same H1 H5 := s13.trans (s4.trans s5)
  refine ⟨ahead l x k, tv2, .ref r2, l :: rr, rfl, CutAt.tups (tups_of s5) ct2, ⟨r2, _, rfl, er2, ?_⟩, by rw [hn3], by omega, fun H6 s6 => ?_⟩
  · rw [pb1]
    exact pd_take k (pd_mono hus fun _ _ h => CutAt.tups (tups_of s15) h)
  refine ⟨true, rfl, iteT ?_⟩
  -- the second
  have s16 : Same H1 H6 := s15.trans s6
  refine ⟨sv x, rfl, sv (ahead l x k), rfl, mk (ahead l x k), rfl, als, ((mk (ahead l x k)).length : Nat), rfl, mk x, rfl, xs1, ?_⟩
  rw [mk_len, cut_from x _ hal]
  have hd : (x.drop (ahead l x k).length).length ≤ 1000 := by
    rw [List.length_drop]
    omega
  refine ⟨v, rfl, x.drop (ahead l x k).length, v, l :: rr, rfl, RulesAt.tups (tups_of (s1.trans s16)) hv, hn3, by omega, hs, hd, fun tv3 H7 s7 ct3 => ?_⟩
  refine ⟨.ref p, rfl, .int (k : Int), rfl, (k : Int), rfl, ?_⟩
  dsimp only [tNoPart]
  refine sl_drop (s7 _ _ (s16 _ _ hp)) k fun r3 H8 s8 er3 => ?_
  refine ⟨x.drop (ahead l x k).length, tv3, .ref r3, l :: rr, rfl, CutAt.tups (tups_of s8) ct3, ⟨r3, _, rfl, er3, ?_⟩, by rw [hn3], hd, fun H9 s9 => ?_⟩
  · rw [pb2]
    exact pd_drop k (pd_mono hus fun _ _ h => CutAt.tups (tups_of (s16.trans (s7.trans s8))) h)
  exact q H9 (s1.trans (s16.trans (s7.trans (s8.trans s9))))
end
end K14

/-! KLaw -/
namespace K14
open PySem PySem.Spec PyProof.Rows L2
theorem scLaw : FnScope ["_law_script", "_law_seed_here", "_law_left", "_law_k", "_law_cell", "_law_pot_here", "_law_text_here", "_law_rules_here", "_law_pieces", "_law_turn", "_law_piece", "_law_due"] ["_law_script"] (defScope sLaw) :=
  ⟨rfl, rfl, rfl, by decide +kernel, rfl, by decide +kernel, by decide +kernel⟩
/-- a promise for each number up to m, as one -/
def spAny (m : Nat) (sp : Nat → Sp) : Sp := fun vs H Q E => ∃ n, n ≤ m ∧ sp n vs H Q E
theorem fn_any {P : Program} {w : World} {K : PySem.W.Frag} {mg : Str → Option Value} {base : Heap} {j m : Nat} {f : Addr} {fd : FuncData} {ps : List Str} {sp : Nat → Sp} (G : ∀ n, n ≤ m → FnOk P w K mg base CX0 j f fd ps (sp n)) :
    FnOk P w K mg base CX0 j f fd ps (spAny m sp) :=
  ⟨fun vs H Q E ⟨n, hn, h⟩ => (G n hn).len vs H Q E h, fun A outer s H args us vs Q E hr he hb hv ⟨n, hn, h⟩ => (G n hn).run A outer s H args us vs Q E hr he hb hv h⟩
abbrev spCutU : Sp := spAny 5 spCut
abbrev spSameU : Sp := spAny 6 spSame
abbrev spRightU : Sp := spAny 5 spRight
theorem cut_one {H : Hp} {l : Lv} {x : Tx} {v : V} (h : CutAt H [l] x v) : ∃ p, v = .ref p ∧ H p = some (.tup ((pieces l x).map sv)) := by
  obtain ⟨p, us, e, hp, pd⟩ := h
  refine ⟨p, e, ?_⟩
  have all : ∀ {us : List V} {ps : List Tx}, Paired (fun u y => CutAt H [] y u) us ps → us = ps.map sv := by
    intro us ps z
    induction z with
    | nil => rfl
    | cons a _ ih =>
      rw [List.map_cons, ih]
      have a' := a
      exact congrArg (· :: _) a'
  rw [hp, all pd]
/-- t + u, some items of the two -/
theorem cat_some {K : PySem.W.Frag} {H : Hp} {p1 p2 : Addr} {xs ys : List V} {Q : VK} (h1 : H p1 = some (.tup xs)) (h2 : H p2 = some (.tup ys)) (hl : xs.length + ys.length ≤ sizeLine)
    (q : ∀ (r : Addr) (zs : List V) (H' : Hp), Same H H' → H' r = some (.tup zs) → (∀ z ∈ zs, z ∈ xs ∨ z ∈ ys) → Q (.ref r) H') : rCatA K (.ref p1) (.ref p2) H Q := by
  refine ⟨p1, p2, xs, ys, rfl, rfl, SqT.of h1, SqT.of h2, hl, fun _ => q p2 ys H (Same.refl H) h2 fun z hz => .inr hz, fun _ _ => q p1 xs H (Same.refl H) h1 fun z hz => .inl hz, fun _ _ r nr => q r _ _ (same_new nr _) upd_same fun z hz => List.mem_append.mp hz⟩
/-- the law's last look: cut by all the levels it is the tree -/
theorem last_look {x : Tx} {rs : List Lv} {v dv : V} {D : Ends} {σ : L2.St} {H : Hp} (e6 : σ[6]? = some (some (sv x))) (e7 : σ[7]? = some (some v)) (e11 : σ[11]? = some (some dv))
    (hv : RulesAt H v rs) (h0 : 0 < rs.length) (h5 : rs.length ≤ 5) (hs : ∀ l ∈ rs, SmallLv l) (hx : x.length ≤ 1000) (hd : CutAt H rs x dv) (q : ∀ H', Same H H' → D.nx σ H') :
    tIfS (tNot (tB (tCall spSameU [] E0 (tCons (tCall spCutU [] E0 (tCons (tVar 6) (tCons (tVar 7) tNil))) (tCons (tVar 11) tNil))))) (tRet (tC (.bl false))) tNext D σ H := by
  refine ⟨_, e6, _, e7, rs.length, h5, x, v, rs, rfl, hv, rfl, h0, hs, hx, fun tv H1 s1 ct => ?_⟩
  refine ⟨_, e11, rs.length + 1, by omega, x, tv, dv, rs, rfl, ct, CutAt.tups (tups_of s1) hd, rfl, hx, fun H2 s2 => ?_⟩
  exact ⟨true, rfl, iteF (q H2 (s1.trans s2))⟩
section
variable {P : Program} {w : World} {K : PySem.W.Frag} {mg : Str → Option Value} {base : Heap}
def spLaw (K : PySem.W.Frag) : Sp := fun vs H Q _ => ∃ (a : Addr) (ns : List Int), vs = [.ref a] ∧ SqL K H a (ns.map V.int) ∧ ns.length ≤ 63 ∧ ∀ H', Q (.bl true) H'
theorem ok_law {f fC fE fR fP fT fX fU fD : Addr} {fd fdC fdE fdR fdP fdT fdX fdU fdD : FuncData} {j : Nat} (F : Fun K "law" "law" sLaw f fd)
    (GC : FnOk P w K mg base CX0 j fC fdC ["text", "rules"] spCutU) (kC : PySem.W.keepIn K (.ref fC) = true) (bC : Binds K fdC ["text", "rules"] []) (gC : mg "cut_up" = some (.ref fC))
    (GE : FnOk P w K mg base CX0 j fE fdE ["_law_told", "_law_due"] spSameU) (kE : PySem.W.keepIn K (.ref fE) = true) (bE : Binds K fdE ["_law_told", "_law_due"] []) (gE : mg "_law_same" = some (.ref fE))
    (GR : FnOk P w K mg base CX0 j fR fdR ["_law_text_here", "_law_rules_here", "_law_k"] spRightU) (kR : PySem.W.keepIn K (.ref fR) = true) (bR : Binds K fdR ["_law_text_here", "_law_rules_here", "_law_k"] []) (gR : mg "_law_right" = some (.ref fR))
    (GP : FnOk P w K mg base CX0 j fP fdP ["_law_cell", "_law_seed_here"] spPot) (kP : PySem.W.keepIn K (.ref fP) = true) (bP : Binds K fdP ["_law_cell", "_law_seed_here"] []) (gP : mg "_law_pot" = some (.ref fP))
    (GT : FnOk P w K mg base CX0 j fT fdT ["_law_pot_here", "_law_many"] spTake) (kT : PySem.W.keepIn K (.ref fT) = true) (bT : Binds K fdT ["_law_pot_here", "_law_many"] []) (gT : mg "_law_take" = some (.ref fT))
    (GX : FnOk P w K mg base CX0 j fX fdX ["_law_pot_here"] spText) (kX : PySem.W.keepIn K (.ref fX) = true) (bX : Binds K fdX ["_law_pot_here"] []) (gX : mg "_law_text" = some (.ref fX))
    (GU : FnOk P w K mg base CX0 j fU fdU ["_law_pot_here", "_law_text_here", "_law_many"] spRules) (kU : PySem.W.keepIn K (.ref fU) = true) (bU : Binds K fdU ["_law_pot_here", "_law_text_here", "_law_many"] []) (gU : mg "_law_rules" = some (.ref fU))
    (GD : FnOk P w K mg base CX0 j fD fdD ["_law_script"] (spSeed K)) (kD : PySem.W.keepIn K (.ref fD) = true) (bD : Binds K fdD ["_law_script"] []) (gD : mg "_law_seed" = some (.ref fD))
    (ml : mg "len" = none) (mr : mg "range" = none) (me : mg "enumerate" = none) (mx : mg "max" = none) (mt : mg "tuple" = none) :
    FnOk P w K mg base CX0 (j + 1) f fd ["_law_script"] (spLaw K) := by
  refine F.ok scLaw (fun vs H Q E h => ?_) (fun cdv A outer s H vs Q E hr h => ?_)
  · obtain ⟨a, ns, rfl, _⟩ := h
    rfl
  obtain ⟨a, ns, rfl, hS, h63, q⟩ := h
  refine ⟨_, pss_cons (ps_set (i := 1) scLaw.nd rfl (.inl rfl) (pe_call GD hr (by rfl) gD kD bD .nil pass0 (pa_cons (pv 0) pa_nil)))
    (pss_cons (ps_set (i := 2) scLaw.nd rfl (.inl rfl) pe_int)
    (pss_cons (ps_for PassesOwn.never rfl (pi_enum (by rfl) me (pa_cons (pe_op op_cat (pe_lst (pa_cons pe_int (pa_cons pe_int pa_nil))) (pe_slice sl_list (pv 0) po_none (po_some pe_int))) pa_nil))
        (pg_tup (by rfl) (pgs_cons (pg_name (i := 3) scLaw.nd rfl (.inl rfl)) (pgs_cons (pg_name (i := 4) scLaw.nd rfl (.inl rfl)) pgs_nil)))
      (pss_cons (ps_set (i := 5) scLaw.nd rfl (.inl rfl) (pe_call GP hr (by rfl) gP kP bP .nil pass0 (pa_cons (pv 4) (pa_cons (pe_op op_add (pv 1) (pe_op op_mul pe_int (pv 3))) pa_nil))))
      (pss_cons (ps_set (i := 6) scLaw.nd rfl (.inl rfl) (pe_slice sl_str (pe_call GX hr (by rfl) gX kX bX .nil pass0 (pa_cons (pv 5) pa_nil)) po_none (po_some (pe_callB (call_max2 rfl) (by rfl) mx (by decide +kernel) (pa_cons pe_int (pa_cons (pv 2) pa_nil))))))
      (pss_cons (ps_set (i := 2) scLaw.nd rfl (.inl rfl) (pe_op op_sub (pv 2) (pe_callB call_len_str (by rfl) ml PySem.boot_len (pa_cons (pv 6) pa_nil))))
      (pss_cons (ps_set (i := 7) scLaw.nd rfl (.inr rfl) (pe_call GU hr (by rfl) gU kU bU .nil pass0 (pa_cons (pv 5) (pa_cons (pv 6) (pa_cons (pe_op op_add pe_int (pe_call GT hr (by rfl) gT kT bT .nil pass0 (pa_cons (pv 5) (pa_cons pe_int pa_nil)))) pa_nil)))))
      (pss_cons (ps_set (i := 8) scLaw.nd rfl (.inl rfl) (pe_call GC hr (by rfl) gC kC bC .nil pass0 (pa_cons (pv 6) (pa_cons (pe_slice sl_tupA (pv 7) po_none (po_some pe_int)) pa_nil))))
      (pss_cons (ps_for PassesOwn.never rfl (pi_range1 (by rfl) mr (pa_cons pe_int pa_nil)) (pg_name (i := 9) scLaw.nd rfl (.inl rfl))
        (pss_one (ps_if (pt_not (pt_val (pe_call GR hr (by rfl) gR kR bR .nil pass0 (pa_cons (pv 6) (pa_cons (pv 7) (pa_cons
            (pe_call GT hr (by rfl) gT kT bT .nil pass0 (pa_cons (pv 5) (pa_cons (pe_op op_add (pe_callB call_len_seq (by rfl) ml PySem.boot_len (pa_cons (pv 8) pa_nil)) pe_int) pa_nil))) pa_nil)))))) (pss_one (ps_ret pe_bl)) pss_nil)))
      (pss_cons (ps_for PassesOwn.never rfl (pi_tup (pe_op op_catA (pe_slice sl_tupA (pv 8) po_none (po_some pe_int)) (pe_slice sl_tupA (pv 8) (po_some (pe_un un_neg pe_int)) po_none))) (pg_name (i := 10) scLaw.nd rfl (.inl rfl))
        (pss_one (ps_if (pt_not (pt_val (pe_call GE hr (by rfl) gE kE bE .nil pass0 (pa_cons (pe_call GC hr (by rfl) gC kC bC .nil pass0 (pa_cons (pv 10) (pa_cons (pe_slice sl_tupA (pv 7) po_none (po_some pe_int)) pa_nil))) (pa_cons (pe_tup (pa_cons (pv 10) pa_nil)) pa_nil)))))
          (pss_one (ps_ret pe_bl)) pss_nil)))
      (pss_cons (ps_set (i := 11) scLaw.nd rfl (.inl rfl) (pv 8))
      (pss_cons (ps_if (pt_cmpR op_gt (pe_callB call_len_seq (by rfl) ml PySem.boot_len (pa_cons (pv 7) pa_nil)) pe_int (nomark _))
        (pss_one (ps_set (i := 11) scLaw.nd rfl (.inl rfl) (pe_callTy call_tuple_of (by rfl) mt (by decide +kernel) (pa_cons
          (pe_lc (own := [("_law_piece", 10)]) (g := gName 10) (tt := tYes) rfl scLaw.nd (pi_tup (pv 8))
            (blkOk_by (own := [("_law_piece", 10)]) (N := ["_law_script", "_law_seed_here", "_law_left", "_law_k", "_law_cell", "_law_pot_here", "_law_text_here", "_law_rules_here", "_law_pieces", "_law_turn", "_law_piece", "_law_due"]) (sc := defScope sLaw) (by decide +kernel))
            (fun _ _ _ _ _ => pg_name (i := 10) scLaw.nd rfl (Or.inl rfl)) (fun _ _ _ _ _ => pts_nil)
            (fun _ _ _ _ _ => pe_call GC hr (by rfl) gC kC bC .nil pass0 (pa_cons (pv 10) (pa_cons (pe_slice (r := rSlA K) sl_tupA (pv 7) (po_some pe_int) po_none) pa_nil)))) pa_nil)))) pss_nil)
      (pss_one (ps_if (pt_not (pt_val (pe_call GE hr (by rfl) gE kE bE .nil pass0 (pa_cons (pe_call GC hr (by rfl) gC kC bC .nil pass0 (pa_cons (pv 6) (pa_cons (pv 7) pa_nil))) (pa_cons (pv 11) pa_nil)))))
        (pss_one (ps_ret pe_bl)) pss_nil))))))))))))
    (pss_one (ps_ret pe_bl)))), ?_⟩
  -- the seed; the list that is walked
  refine ⟨.ref a, rfl, a, ns, rfl, hS, fun sd H1 s1 sd0 sd1 => ?_⟩
  refine ⟨by show 2 ≤ sizeLine; decide, fun p np => ?_⟩
  have hS2 : SqL K (upd H1 p (.lst [.int 3, .int 4])) a (ns.map V.int) := (s1.trans (same_new np _)).seq hS
  refine ⟨.ref a, rfl, 61, rfl, a, _, rfl, hS2, fun p2 np2 => ?_⟩
  have ecut : cutV (ns.map V.int) none (some 61) = (ns.take 61).map V.int := by
    have z := cutV_to (ns.map V.int) 61
    rw [List.map_take]
    exact z
  rw [ecut]
  have hlen61 : (ns.take 61).length ≤ 61 := by
    rw [List.length_take]
    exact Nat.min_le_left _ _
  refine ⟨p, p2, [.int 3, .int 4], _, rfl, rfl, same_new np2 _ _ _ upd_same, upd_same, ?_, fun b nb => ?_⟩
  · rw [List.length_map]
    exact line1000 (by simp only [List.length_cons, List.length_nil]; omega)
  have ecs : ([.int 3, .int 4] : List V) ++ (ns.take 61).map V.int = ((3 : Int) :: 4 :: ns.take 61).map V.int := rfl
  rw [ecs]
  generalize hcs : (3 : Int) :: 4 :: ns.take 61 = cs
  have hcl : cs.length ≤ 63 := by
    rw [← hcs, List.length_cons, List.length_cons]
    omega
  generalize hHb : upd (upd (upd H1 p (.lst [.int 3, .int 4])) p2 (.lst ((ns.take 61).map V.int))) b (.lst (cs.map V.int)) = Hb
  have hb : Hb b = some (.lst (cs.map V.int)) := by
    rw [← hHb]
    exact upd_same
  refine ⟨b, _, rfl, SqL.of hb, for_it (walk_enum (xs := cs.map V.int)) (fun i σ H' => ∃ (left : Int) (y3 y4 y5 y6 y7 y8 y9 y10 y11 : Option V), σ = [some (.ref a), some (.int sd), some (.int left), y3, y4, y5, y6, y7, y8, y9, y10, y11] ∧ Same Hb H')
    ⟨1300, none, none, none, none, none, none, none, none, none, rfl, Same.refl Hb⟩ (fun i σ H' _ h => ?_) (fun i u σ H' H2 hi h hy => ?_) (fun σ H' h => ?_)⟩
  · obtain ⟨_, _, _, _, _, _, _, _, _, _, _, sm⟩ := h
    exact SqL.of (sm _ _ hb)
  · obtain ⟨left, y3, y4, y5, y6, y7, y8, y9, y10, y11, rfl, sm⟩ := h
    obtain ⟨T, k1, c1, rfl, nT, rfl, ek, ec⟩ := hy
    cases ek
    have ec' : (cs.map V.int)[i]? = some c1 := ec
    rw [List.getElem?_map] at ec'
    obtain ⟨c, _, rfl⟩ := Option.map_eq_some_iff.mp ec'
    rw [List.length_map] at hi
    have sT := same_new nT (.tup [.int (i : Nat), .int c])
    have eT : upd H' T (.tup [.int (i : Nat), .int c]) T = some (.tup [.int (i : Nat), .int c]) := upd_same
    generalize upd H' T (.tup [.int (i : Nat), .int c]) = HT at sT eT
    refine ⟨T, _, rfl, SqT.of eT, rfl, .int (i : Nat), [.int c], rfl, .int c, [], rfl, rfl, ?_⟩
    -- the pot
    refine ⟨.int c, rfl, .int sd, rfl, .int (i : Nat), rfl, 31, (i : Nat), rfl, rfl, .inl ⟨by decide, by decide⟩, sd, 31 * (i : Nat), rfl, rfl, c, sd + 31 * (i : Nat), rfl, by omega, by omega, fun ap H3 nap s3 pa3 => ?_⟩
    -- the text
    refine ⟨.ref ap, rfl, ap, rfl, pa3, fun x0 H4 k4 pa4 hx0 => ?_⟩
    refine ⟨.int left, rfl, 12, left, rfl, _, rfl, mk x0, rfl, by rw [mk_len]; exact line1000 (by omega), ?_⟩
    obtain ⟨x, ex, lx⟩ := cut_any x0 none (some (if left > 12 then left else 12))
    rw [ex]
    have hx : x.length ≤ 400 := Nat.le_trans lx hx0
    have xs1 : (mk x).length ≤ sizeLine := by
      rw [mk_len]
      exact line1000 (by omega)
    -- what is left
    refine ⟨.int left, rfl, sv x, rfl, mk x, rfl, xs1, left, ((mk x).length : Nat), rfl, rfl, ?_⟩
    -- the rules
    refine ⟨.ref ap, rfl, sv x, rfl, .ref ap, rfl, ap, 5, rfl, pa4, by decide, by decide, fun u H5 u0 u1 k5 pa5 => ?_⟩
    refine ⟨1, u, rfl, rfl, ap, x, 1 + u, rfl, pa5, hx, by omega, by omega, fun v rs H6 k6 pa6 hrs lrs hsm => ?_⟩
    obtain ⟨pr, vs, rfl, hpr, pdr⟩ := id hrs
    have hrl : 0 < rs.length := by omega
    have hr5 : rs.length ≤ 5 := by omega
    obtain ⟨l, rr, rfl⟩ : ∃ l rr, rs = l :: rr := by
      cases rs with
      | nil => exact absurd hrl (Nat.lt_irrefl 0)
      | cons l rr => exact ⟨l, rr, rfl⟩
    have hr6 : rr.length + 1 ≤ 5 := hr5
    have hl1 : ∀ m ∈ [l], SmallLv m := fun m hm => hsm m (by rw [List.mem_singleton.mp hm]; exact List.mem_cons_self ..)
    -- rules[:1], wherever they stand
    have one : ∀ (H7 : Hp) (r : Addr), Same H6 H7 → H7 r = some (.tup (vs.take 1)) → RulesAt H7 (.ref r) [l] := fun H7 r s7 er => ⟨r, _, rfl, er, pd_mono (pd_take 1 pdr) fun _ _ h => LvAt.tups (tups_of s7) h⟩
    -- the pieces
    refine ⟨sv x, rfl, .ref pr, rfl, 1, rfl, sl_take hpr 1 fun r7 H7 s7 er7 => ?_⟩
    refine ⟨1, by decide, x, .ref r7, [l], rfl, one H7 r7 s7 er7, rfl, by decide, hl1, by omega, fun v8 H8 s8 ct8 => ?_⟩
    obtain ⟨pp, rfl, hpp⟩ := cut_one ct8
    have s68 : Same H6 H8 := s7.trans s8
    have hpr8 := s68 _ _ hpr
    have hrs8 : RulesAt H8 (.ref pr) (l :: rr) := RulesAt.tups (tups_of s68) hrs
    have pa8 : PotAt H8 ap := pa6.same s68
    -- two turns
    refine ⟨2, rfl, by decide, by decide, for_range (lo := 0) (n := 2) (fun t σ H' => ∃ (y9 y10 y11 : Option V), σ = [some (.ref a), some (.int sd), some (.int (left - ((mk x).length : Nat))), some (.int (i : Nat)), some (.int c), some (.ref ap), some (sv x), some (.ref pr), some (.ref pp), y9, y10, y11] ∧ Keep ap H8 H' ∧ PotAt H' ap)
      ⟨y9, y10, y11, rfl, Keep.refl ap H8, pa8⟩ (fun t σ H9 _ h => ?_) (fun σ H9 h => ?_)⟩
    · obtain ⟨y9, y10, y11, rfl, k9, pa9⟩ := h
      have t9 : Tups H8 H9 := pa8.tups k9
      have hpp9 := t9 _ _ hpp
      refine ⟨sv x, rfl, .ref pr, rfl, .ref ap, rfl, .ref pp, rfl, pp, _, rfl, .inr (SqT.of hpp9), _, 1, rfl, rfl, ?_⟩
      rw [List.length_map]
      have hpl := pieces_len l x
      refine ⟨ap, _, rfl, pa9, by omega, by omega, fun k H10 k0 k1 k10 pa10 => ?_⟩
      obtain ⟨kn, rfl⟩ : ∃ kn : Nat, k = (kn : Int) := ⟨k.toNat, by omega⟩
      refine ⟨rr.length + 1, hr5, x, .ref pr, l, rr, kn, rfl, RulesAt.tups (pa9.tups k10) (RulesAt.tups t9 hrs8), rfl, hsm, by omega, by omega, by omega, fun H11 s11 => ?_⟩
      exact ⟨true, rfl, iteF ⟨_, _, _, rfl, k9.trans (k10.trans (keep_of s11)), pa10.same s11⟩⟩
    obtain ⟨y9, y10, y11, rfl, k9, pa9⟩ := h
    have t9 : Tups H8 H9 := pa8.tups k9
    have hpp9 := t9 _ _ hpp
    have hpr9 := t9 _ _ hpr8
    have hrs9 : RulesAt H9 (.ref pr) (l :: rr) := RulesAt.tups t9 hrs8
    have ct9 : CutAt H9 [l] x (.ref pp) := CutAt.tups t9 ct8
    have hn9 : HT ap = none := nap
    -- all that stood ahead of the turn stands
    have s9 : Same Hb H9 := by
      intro d o e
      have eHT := sT d o (sm d o e)
      have nd : d ≠ ap := ne_of_none eHT nap
      exact k9 d o nd (s68 d o (k6 d o nd (k5 d o nd (k4 d o nd (s3 d o eHT)))))
    have hpl := pieces_len l x
    -- some pieces
    refine ⟨.ref pp, rfl, 4, rfl, ?_⟩
    refine sl_some hpp9 none (some 4) fun r10 ys10 H10 s10 er10 in10 le10 => ?_
    refine ⟨.ref pp, rfl, 4, rfl, -4, rfl, ?_⟩
    dsimp only [tNoPart]
    refine sl_some (s10 _ _ hpp9) (some (-4)) none fun r11 ys11 H11 s11 er11 in11 le11 => ?_
    rw [List.length_map] at le10 le11
    refine cat_some (s11 _ _ er10) er11 (line1000 (by omega)) fun r12 ys12 H12 s12 er12 in12 => ?_
    have s9c : Same H9 H12 := s10.trans (s11.trans s12)
    refine ⟨r12, rfl, ⟨_, SqT.of er12⟩, for_tup (D := { nx := _, rt := _ }) (xs := ys12) (fun t σ H' => ∃ (y9 y10 y11 : Option V), σ = [some (.ref a), some (.int sd), some (.int (left - ((mk x).length : Nat))), some (.int (i : Nat)), some (.int c), some (.ref ap), some (sv x), some (.ref pr), some (.ref pp), y9, y10, y11] ∧ Same H12 H')
      ⟨y9, y10, y11, rfl, Same.refl H12⟩ (fun t σ H' _ h => ?_) (fun t u1 σ H' hu h => ?_) (fun σ H' h => ?_)⟩
    · obtain ⟨_, _, _, _, s13⟩ := h
      exact SqT.of (s13 _ _ er12)
    · obtain ⟨y9, y10, y11, rfl, s13⟩ := h
      have hmem : u1 ∈ (pieces l x).map sv := by
        rcases in12 u1 (List.mem_of_getElem? hu) with e | e
        · exact in10 u1 e
        · exact in11 u1 e
      obtain ⟨pc, hpc, rfl⟩ := List.mem_map.mp hmem
      have hpcl : pc.length ≤ 1000 := Nat.le_trans (piece_len l x hpc) (by omega)
      have s913 : Same H9 H' := s9c.trans s13
      refine ⟨sv pc, rfl, .ref pr, rfl, 1, rfl, sl_take (s913 _ _ hpr9) 1 fun r14 H14 s14 er14 => ?_⟩
      have hr14 : RulesAt H14 (.ref r14) [l] := ⟨r14, _, rfl, er14, pd_mono (pd_take 1 pdr) fun _ _ h => LvAt.tups (((tups_of s68).trans t9).trans (tups_of (s913.trans s14))) h⟩
      refine ⟨1, by decide, pc, .ref r14, [l], rfl, hr14, rfl, by decide, hl1, hpcl, fun v15 H15 s15 ct15 => ?_⟩
      refine ⟨sv pc, rfl, by show 1 ≤ sizeLine; decide, fun t16 nt16 => ?_⟩
      have s16 := same_new nt16 (.tup [sv pc])
      refine ⟨2, by decide, pc, v15, .ref t16, [l], rfl, CutAt.tups (tups_of s16) ct15, ⟨t16, [sv pc], rfl, upd_same, ?_⟩, rfl, hpcl, fun H17 s17 => ?_⟩
      · rw [pieces_piece l x pc hpc]
        exact .cons rfl .nil
      · exact ⟨true, rfl, iteF ⟨_, _, _, rfl, s13.trans (s14.trans (s15.trans (s16.trans s17)))⟩⟩
    obtain ⟨y9, y10, y11, rfl, s13⟩ := h
    have s913 : Same H9 H' := s9c.trans s13
    have hpp13 := s913 _ _ hpp9
    have hpr13 := s913 _ _ hpr9
    have hrs13 : RulesAt H' (.ref pr) (l :: rr) := RulesAt.tups (tups_of s913) hrs9
    have ct13 : CutAt H' [l] x (.ref pp) := CutAt.tups (tups_of s913) ct9
    -- the due tree
    refine ⟨.ref pp, rfl, ?_⟩
    have hlv := pdr.length
    refine ⟨.ref pr, rfl, pr, _, rfl, .inr (SqT.of hpr13), _, 1, rfl, rfl, _, rfl, ?_⟩
    refine ite2 (fun e => ?_) (fun e => ?_)
    · have e1 : ((vs.length : Nat) : Int) > 1 := of_decide_eq_true e
      refine ⟨.ref pp, rfl, pp, rfl, ⟨_, SqT.of hpp13⟩, fun D nD => ?_⟩
      refine lc_tup (xs := (pieces l x).map sv) (fun t H2 => ∃ acc, Same H' H2 ∧ H2 D = some (.lst acc) ∧ Paired (fun u y => CutAt H2 rr y u) acc ((pieces l x).take t))
        ⟨[], same_new nD _, upd_same, .nil⟩ (fun t H2 _ h => SqT.of (h.choose_spec.1 _ _ hpp13)) (fun t u1 H2 hu h => ?_) (fun H2 h => ?_)
      · obtain ⟨acc, s14, eD, pd⟩ := h
        rw [List.getElem?_map] at hu
        obtain ⟨y, hy, rfl⟩ := Option.map_eq_some_iff.mp hu
        have hyx : y.length ≤ 1000 := Nat.le_trans (piece_len l x (List.mem_of_getElem? hy)) (by omega)
        refine ⟨rfl, ?_⟩
        refine ⟨sv y, rfl, .ref pr, rfl, 1, rfl, ?_⟩
        dsimp only [tNoPart]
        refine sl_drop (s14 _ _ hpr13) 1 fun r15 H15 s15 er15 => ?_
        have hr15 : RulesAt H15 (.ref r15) rr := ⟨r15, _, rfl, er15, pd_mono (pd_drop 1 pdr) fun _ _ h => LvAt.tups (((tups_of s68).trans t9).trans (tups_of (s913.trans (s14.trans s15)))) h⟩
        have hrr : rr.length + 1 = vs.length := hlv.symm
        refine ⟨rr.length, by have z := hr5; rw [List.length_cons] at z; omega, y, .ref r15, rr, rfl, hr15, rfl, by omega, fun m hm => hsm m (List.mem_cons_of_mem _ hm), hyx, fun v16 H16 s16 ct16 => ?_⟩
        have s1416 : Same H2 H16 := s15.trans s16
        have eD16 := s1416 _ _ eD
        refine ⟨acc, eD16, ?_, acc ++ [v16], same_upd2 nD (s14.trans s1416) _, upd_same, ?_⟩
        · have z := pd.length
          rw [List.length_take] at z
          exact small1000 (by omega)
        · rw [List.take_add_one, hy]
          exact pd_mono (pd_app (pd_mono pd fun _ _ hc => CutAt.tups (tups_of s1416) hc) (.cons ct16 .nil)) fun _ _ hc => CutAt.tups (tups_upd eD16 _) hc
      · obtain ⟨acc, s14, eD, pd⟩ := h
        rw [List.length_map, List.take_length] at pd
        refine ⟨D, _, rfl, .inl ⟨SqL.of eD, fun t15 nt15 => ?_⟩⟩
        have s1415 : Same H' (upd H2 t15 (.tup acc)) := s14.trans (same_new nt15 _)
        refine last_look (x := x) (rs := l :: rr) (v := .ref pr) (dv := .ref t15) rfl rfl rfl (RulesAt.tups (tups_of s1415) hrs13) hrl hr5 hsm (by omega) ⟨t15, acc, rfl, upd_same, pd_mono pd fun _ _ hc => CutAt.tups (tups_new nt15 _) hc⟩ fun H18 s18 => ?_
        exact ⟨_, _, _, _, _, _, _, _, _, _, rfl, s9.trans (s913.trans (s1415.trans s18))⟩
    · have e1 : ¬ ((vs.length : Nat) : Int) > 1 := of_decide_eq_false (Bool.eq_false_iff.mpr e)
      have hrr : rr = [] := by
        rw [List.length_cons] at hlv
        exact List.length_eq_zero_iff.mp (by omega)
      subst hrr
      refine last_look (x := x) (rs := [l]) (v := .ref pr) (dv := .ref pp) rfl rfl rfl hrs13 hrl hr5 hsm (by omega) ct13 fun H18 s18 => ?_
      exact ⟨_, _, _, _, _, _, _, _, _, _, rfl, s9.trans (s913.trans s18)⟩
  · obtain ⟨left, y3, y4, y5, y6, y7, y8, y9, y10, y11, rfl, sm⟩ := h
    exact q H'
end
end K14

/-! KEnd -/
namespace K14
open PySem PySem.Spec PyProof.Rows L2
section
variable {P : Program} {w : World} {K : PySem.W.Frag} {mg : Str → Option Value} {base : Heap}
theorem glue {f1 f2 f3 f4 f5 f6 f7 f8 f9 f10 f11 f12 f13 f14 f15 : Addr} {fd1 fd2 fd3 fd4 fd5 fd6 fd7 fd8 fd9 fd10 fd11 fd12 fd13 fd14 fd15 : FuncData}
    (F1 : Fun K "longest_at" "longest_at" sLongest f1 fd1) (b1 : Binds K fd1 ["text", "at", "some"] []) (g1 : mg "longest_at" = some (.ref f1))
    (F2 : Fun K "pieces_of" "pieces_of" sPieces f2 fd2) (b2 : Binds K fd2 ["text", "level"] []) (g2 : mg "pieces_of" = some (.ref f2))
    (F3 : Fun K "cut_up" "cut_up" sCut f3 fd3) (b3 : Binds K fd3 ["text", "rules"] []) (g3 : mg "cut_up" = some (.ref f3))
    (F4 : Fun K "leaves_from" "leaves_from" sLeavesFrom f4 fd4) (b4 : Binds K fd4 ["tree", "path"] []) (g4 : mg "leaves_from" = some (.ref f4))
    (F5 : Fun K "leaves" "leaves" sLeaves f5 fd5) (b5 : Binds K fd5 ["tree"] []) (g5 : mg "leaves" = some (.ref f5))
    (F6 : Fun K "sewn" "sewn" sSewn f6 fd6) (b6 : Binds K fd6 ["tree"] []) (g6 : mg "sewn" = some (.ref f6))
    (F7 : Fun K "_law_pot" "_law_pot" sPot f7 fd7) (b7 : Binds K fd7 ["_law_cell", "_law_seed_here"] []) (g7 : mg "_law_pot" = some (.ref f7))
    (F8 : Fun K "_law_take" "_law_take" sTake f8 fd8) (b8 : Binds K fd8 ["_law_pot_here", "_law_many"] []) (g8 : mg "_law_take" = some (.ref f8))
    (F9 : Fun K "_law_seed" "_law_seed" sSeed f9 fd9) (b9 : Binds K fd9 ["_law_script"] []) (g9 : mg "_law_seed" = some (.ref f9))
    (F10 : Fun K "_law_same" "_law_same" sSame f10 fd10) (b10 : Binds K fd10 ["_law_told", "_law_due"] []) (g10 : mg "_law_same" = some (.ref f10))
    (F11 : Fun K "_law_text" "_law_text" sText f11 fd11) (b11 : Binds K fd11 ["_law_pot_here"] []) (g11 : mg "_law_text" = some (.ref f11))
    (F12 : Fun K "_law_marks" "_law_marks" sMarks f12 fd12) (b12 : Binds K fd12 ["_law_pot_here", "_law_text_here"] []) (g12 : mg "_law_marks" = some (.ref f12))
    (F13 : Fun K "_law_rules" "_law_rules" sRules f13 fd13) (b13 : Binds K fd13 ["_law_pot_here", "_law_text_here", "_law_many"] []) (g13 : mg "_law_rules" = some (.ref f13))
    (F14 : Fun K "_law_right" "_law_right" sRight f14 fd14) (b14 : Binds K fd14 ["_law_text_here", "_law_rules_here", "_law_k"] []) (g14 : mg "_law_right" = some (.ref f14))
    (F15 : Fun K "law" "law" sLaw f15 fd15) (b15 : Binds K fd15 ["_law_script"] []) (g15 : mg "law" = some (.ref f15))
    (z_len : mg "len" = none) (z_tuple : mg "tuple" = none) (z_isinstance : mg "isinstance" = none) (z_str : mg "str" = none) (z_enumerate : mg "enumerate" = none) (z_abs : mg "abs" = none) (z_int : mg "int" = none) (z_all : mg "all" = none) (z_zip : mg "zip" = none) (z_bool : mg "bool" = none) (z_range : mg "range" = none) (z_list : mg "list" = none) (z_max : mg "max" = none) : FnOk P w K mg base CX0 9 f15 fd15 ["_law_script"] (spLaw K) := by
  have GP : FnOk P w K mg base CX0 2 f2 fd2 ["text", "level"] spPieces := ok_pieces (k := 0) F2 F1 b1 g1 z_len
  have cut : ∀ n : Nat, FnOk P w K mg base CX0 (n + 2) f3 fd3 ["text", "rules"] (spCut n) := by
    intro n
    induction n with
    | zero => exact cut_none
    | succ n ih => exact ok_cut F3 b3 g3 ih GP F2.kp b2 g2 z_len z_tuple
  have lf : ∀ n : Nat, FnOk P w K mg base CX0 n f4 fd4 ["tree", "path"] (spLF n) := by
    intro n
    induction n with
    | zero => exact lf_none
    | succ n ih => exact ok_lf F4 b4 g4 ih z_isinstance z_str z_enumerate
  have same : ∀ n : Nat, FnOk P w K mg base CX0 n f10 fd10 ["_law_told", "_law_due"] (spSame n) := by
    intro n
    induction n with
    | zero => exact same_none
    | succ n ih => exact ok_same F10 b10 g10 ih z_isinstance z_tuple z_len z_all z_zip z_bool z_str
  have sew : ∀ n : Nat, FnOk P w K mg base CX0 (n + 2) f6 fd6 ["tree"] (spSewn n) := fun n => ok_sewn (k := n + 1) F6 (ok_leaves F5 (lf n) F4.kp b4 g4 z_tuple) F5.kp b5 g5
  have right : ∀ n : Nat, n ≤ 5 → FnOk P w K mg base CX0 8 f14 fd14 ["_law_text_here", "_law_rules_here", "_law_k"] (spRight n) := fun n hn =>
    ok_right (j := 7) F14 ((cut n).mono (by omega)) F3.kp b3 g3 ((sew n).mono (by omega)) F6.kp b6 g6 ((same (n + 1)).mono (by omega)) F10.kp b10 g10 z_len
  have GM : FnOk P w K mg base CX0 2 f12 fd12 ["_law_pot_here", "_law_text_here"] spMarks := ok_marks (k := 0) F12 F8 b8 g8 z_len z_range z_tuple z_list
  exact ok_law (j := 8) F15 (fn_any fun n hn => (cut n).mono (by omega)) F3.kp b3 g3 (fn_any fun n hn => (same n).mono (by omega)) F10.kp b10 g10 (fn_any right) F14.kp b14 g14
    ((ok_pot (k := 0) F7 z_abs z_int).mono (by decide)) F7.kp b7 g7 ((ok_take (k := 0) F8).mono (by decide)) F8.kp b8 g8 ((ok_text (k := 0) F11 F8 b8 g8 z_len z_range).mono (by decide)) F11.kp b11 g11
    ((ok_rules (k := 2) F13 GM F12.kp b12 g12 z_range z_tuple).mono (by decide)) F13.kp b13 g13 ((ok_seed (k := 0) F9).mono (by decide)) F9.kp b9 g9 z_len z_range z_enumerate z_max z_tuple
end
theorem all_mk {l : PySem.W.OpenLaw} {w : World} {K : PySem.W.Frag} {h : Heap} {mg : Str → Option Value} {fa f1 f2 f3 f4 f5 f6 f7 f8 f9 f10 f11 f12 f13 f14 f15 : Addr} (X : K.In h) (G : h.Ns mainGlobals mg) (hfa : mg "law" = some (.ref fa))
    {od1 an1 od2 an2 od3 an3 od4 an4 od5 an5 od6 an6 od7 an7 od8 an8 od9 an9 od10 an10 od11 an11 od12 an12 od13 an13 od14 an14 od15 an15 : Option Addr} {sl1 sl2 sl3 sl4 sl5 sl6 sl7 sl8 sl9 sl10 sl11 sl12 sl13 sl14 sl15 : Array (Option Value)} {oc1 kV1 dc1 pm1 cd1 ct1 oc2 kV2 dc2 pm2 cd2 ct2 oc3 kV3 dc3 pm3 cd3 ct3 oc4 kV4 dc4 pm4 cd4 ct4 oc5 kV5 dc5 pm5 cd5 ct5 oc6 kV6 dc6 pm6 cd6 ct6 oc7 kV7 dc7 pm7 cd7 ct7 oc8 kV8 dc8 pm8 cd8 ct8 oc9 kV9 dc9 pm9 cd9 ct9 oc10 kV10 dc10 pm10 cd10 ct10 oc11 kV11 dc11 pm11 cd11 ct11 oc12 kV12 dc12 pm12 cd12 ct12 oc13 kV13 dc13 pm13 cd13 ct13 oc14 kV14 dc14 pm14 cd14 ct14 oc15 kV15 dc15 pm15 cd15 ct15 : Value}
    (a1 : PySem.W.nsIn K mainGlobals "longest_at" = some (some (.ref f1))) (l1 : K.lookup f1 = some ⟨oc1, od1, .func (PySem.W.fnOf "longest_at" "longest_at" (defArgs sLongest) (defBody sLongest) (defScope sLongest) .none kV1 dc1 pm1 an1 cd1 ct1), sl1⟩) (c1 : PySem.W.codeIn K cd1 "longest_at" = true) (k1 : PySem.W.keepIn K (.ref f1) = true)
    (a2 : PySem.W.nsIn K mainGlobals "pieces_of" = some (some (.ref f2))) (l2 : K.lookup f2 = some ⟨oc2, od2, .func (PySem.W.fnOf "pieces_of" "pieces_of" (defArgs sPieces) (defBody sPieces) (defScope sPieces) .none kV2 dc2 pm2 an2 cd2 ct2), sl2⟩) (c2 : PySem.W.codeIn K cd2 "pieces_of" = true) (k2 : PySem.W.keepIn K (.ref f2) = true)
    (a3 : PySem.W.nsIn K mainGlobals "cut_up" = some (some (.ref f3))) (l3 : K.lookup f3 = some ⟨oc3, od3, .func (PySem.W.fnOf "cut_up" "cut_up" (defArgs sCut) (defBody sCut) (defScope sCut) .none kV3 dc3 pm3 an3 cd3 ct3), sl3⟩) (c3 : PySem.W.codeIn K cd3 "cut_up" = true) (k3 : PySem.W.keepIn K (.ref f3) = true)
    (a4 : PySem.W.nsIn K mainGlobals "leaves_from" = some (some (.ref f4))) (l4 : K.lookup f4 = some ⟨oc4, od4, .func (PySem.W.fnOf "leaves_from" "leaves_from" (defArgs sLeavesFrom) (defBody sLeavesFrom) (defScope sLeavesFrom) .none kV4 dc4 pm4 an4 cd4 ct4), sl4⟩) (c4 : PySem.W.codeIn K cd4 "leaves_from" = true) (k4 : PySem.W.keepIn K (.ref f4) = true)
    (a5 : PySem.W.nsIn K mainGlobals "leaves" = some (some (.ref f5))) (l5 : K.lookup f5 = some ⟨oc5, od5, .func (PySem.W.fnOf "leaves" "leaves" (defArgs sLeaves) (defBody sLeaves) (defScope sLeaves) .none kV5 dc5 pm5 an5 cd5 ct5), sl5⟩) (c5 : PySem.W.codeIn K cd5 "leaves" = true) (k5 : PySem.W.keepIn K (.ref f5) = true)
    (a6 : PySem.W.nsIn K mainGlobals "sewn" = some (some (.ref f6))) (l6 : K.lookup f6 = some ⟨oc6, od6, .func (PySem.W.fnOf "sewn" "sewn" (defArgs sSewn) (defBody sSewn) (defScope sSewn) .none kV6 dc6 pm6 an6 cd6 ct6), sl6⟩) (c6 : PySem.W.codeIn K cd6 "sewn" = true) (k6 : PySem.W.keepIn K (.ref f6) = true)
    (a7 : PySem.W.nsIn K mainGlobals "_law_pot" = some (some (.ref f7))) (l7 : K.lookup f7 = some ⟨oc7, od7, .func (PySem.W.fnOf "_law_pot" "_law_pot" (defArgs sPot) (defBody sPot) (defScope sPot) .none kV7 dc7 pm7 an7 cd7 ct7), sl7⟩) (c7 : PySem.W.codeIn K cd7 "_law_pot" = true) (k7 : PySem.W.keepIn K (.ref f7) = true)
    (a8 : PySem.W.nsIn K mainGlobals "_law_take" = some (some (.ref f8))) (l8 : K.lookup f8 = some ⟨oc8, od8, .func (PySem.W.fnOf "_law_take" "_law_take" (defArgs sTake) (defBody sTake) (defScope sTake) .none kV8 dc8 pm8 an8 cd8 ct8), sl8⟩) (c8 : PySem.W.codeIn K cd8 "_law_take" = true) (k8 : PySem.W.keepIn K (.ref f8) = true)
    (a9 : PySem.W.nsIn K mainGlobals "_law_seed" = some (some (.ref f9))) (l9 : K.lookup f9 = some ⟨oc9, od9, .func (PySem.W.fnOf "_law_seed" "_law_seed" (defArgs sSeed) (defBody sSeed) (defScope sSeed) .none kV9 dc9 pm9 an9 cd9 ct9), sl9⟩) (c9 : PySem.W.codeIn K cd9 "_law_seed" = true) (k9 : PySem.W.keepIn K (.ref f9) = true)
    (a10 : PySem.W.nsIn K mainGlobals "_law_same" = some (some (.ref f10))) (l10 : K.lookup f10 = some ⟨oc10, od10, .func (PySem.W.fnOf "_law_same" "_law_same" (defArgs sSame) (defBody sSame) (defScope sSame) .none kV10 dc10 pm10 an10 cd10 ct10), sl10⟩) (c10 : PySem.W.codeIn K cd10 "_law_same" = true) (k10 : PySem.W.keepIn K (.ref f10) = true)
    (a11 : PySem.W.nsIn K mainGlobals "_law_text" = some (some (.ref f11))) (l11 : K.lookup f11 = some ⟨oc11, od11, .func (PySem.W.fnOf "_law_text" "_law_text" (defArgs sText) (defBody sText) (defScope sText) .none kV11 dc11 pm11 an11 cd11 ct11), sl11⟩) (c11 : PySem.W.codeIn K cd11 "_law_text" = true) (k11 : PySem.W.keepIn K (.ref f11) = true)
    (a12 : PySem.W.nsIn K mainGlobals "_law_marks" = some (some (.ref f12))) (l12 : K.lookup f12 = some ⟨oc12, od12, .func (PySem.W.fnOf "_law_marks" "_law_marks" (defArgs sMarks) (defBody sMarks) (defScope sMarks) .none kV12 dc12 pm12 an12 cd12 ct12), sl12⟩) (c12 : PySem.W.codeIn K cd12 "_law_marks" = true) (k12 : PySem.W.keepIn K (.ref f12) = true)
    (a13 : PySem.W.nsIn K mainGlobals "_law_rules" = some (some (.ref f13))) (l13 : K.lookup f13 = some ⟨oc13, od13, .func (PySem.W.fnOf "_law_rules" "_law_rules" (defArgs sRules) (defBody sRules) (defScope sRules) .none kV13 dc13 pm13 an13 cd13 ct13), sl13⟩) (c13 : PySem.W.codeIn K cd13 "_law_rules" = true) (k13 : PySem.W.keepIn K (.ref f13) = true)
    (a14 : PySem.W.nsIn K mainGlobals "_law_right" = some (some (.ref f14))) (l14 : K.lookup f14 = some ⟨oc14, od14, .func (PySem.W.fnOf "_law_right" "_law_right" (defArgs sRight) (defBody sRight) (defScope sRight) .none kV14 dc14 pm14 an14 cd14 ct14), sl14⟩) (c14 : PySem.W.codeIn K cd14 "_law_right" = true) (k14 : PySem.W.keepIn K (.ref f14) = true)
    (a15 : PySem.W.nsIn K mainGlobals "law" = some (some (.ref f15))) (l15 : K.lookup f15 = some ⟨oc15, od15, .func (PySem.W.fnOf "law" "law" (defArgs sLaw) (defBody sLaw) (defScope sLaw) .none kV15 dc15 pm15 an15 cd15 ct15), sl15⟩) (c15 : PySem.W.codeIn K cd15 "law" = true) (k15 : PySem.W.keepIn K (.ref f15) = true)
    (y1 : PySem.W.nsIn K mainGlobals "len" = some none) (y2 : PySem.W.nsIn K mainGlobals "tuple" = some none) (y3 : PySem.W.nsIn K mainGlobals "isinstance" = some none) (y4 : PySem.W.nsIn K mainGlobals "str" = some none) (y5 : PySem.W.nsIn K mainGlobals "enumerate" = some none) (y6 : PySem.W.nsIn K mainGlobals "abs" = some none) (y7 : PySem.W.nsIn K mainGlobals "int" = some none) (y8 : PySem.W.nsIn K mainGlobals "all" = some none) (y9 : PySem.W.nsIn K mainGlobals "zip" = some none) (y10 : PySem.W.nsIn K mainGlobals "bool" = some none) (y11 : PySem.W.nsIn K mainGlobals "range" = some none) (y12 : PySem.W.nsIn K mainGlobals "list" = some none) (y13 : PySem.W.nsIn K mainGlobals "max" = some none) :
    ∃ fd : FuncData, (∀ (s : Shared) (v : Value), BindsTo s fd ⟨[v], []⟩ [("_law_script", v)]) ∧ ∀ base : Heap, K.In base → base.Ns mainGlobals mg → FnOk l.prog w K mg base CX0 9 fa fd ["_law_script"] (spLaw K) := by
  have e := hfa.symm.trans (PySem.W.mg_of X G a15)
  cases e
  have F1 := fun_mk (st := sLongest) l1 c1 k1
  have F2 := fun_mk (st := sPieces) l2 c2 k2
  have F3 := fun_mk (st := sCut) l3 c3 k3
  have F4 := fun_mk (st := sLeavesFrom) l4 c4 k4
  have F5 := fun_mk (st := sLeaves) l5 c5 k5
  have F6 := fun_mk (st := sSewn) l6 c6 k6
  have F7 := fun_mk (st := sPot) l7 c7 k7
  have F8 := fun_mk (st := sTake) l8 c8 k8
  have F9 := fun_mk (st := sSeed) l9 c9 k9
  have F10 := fun_mk (st := sSame) l10 c10 k10
  have F11 := fun_mk (st := sText) l11 c11 k11
  have F12 := fun_mk (st := sMarks) l12 c12 k12
  have F13 := fun_mk (st := sRules) l13 c13 k13
  have F14 := fun_mk (st := sRight) l14 c14 k14
  have F15 := fun_mk (st := sLaw) l15 c15 k15
  have b1 := F1.binds (ps := ["text", "at", "some"]) fun _ _ _ _ _ _ us hl => match us, hl with | [_, _, _], _ => rfl
  have b2 := F2.binds (ps := ["text", "level"]) fun _ _ _ _ _ _ us hl => match us, hl with | [_, _], _ => rfl
  have b3 := F3.binds (ps := ["text", "rules"]) fun _ _ _ _ _ _ us hl => match us, hl with | [_, _], _ => rfl
  have b4 := F4.binds (ps := ["tree", "path"]) fun _ _ _ _ _ _ us hl => match us, hl with | [_, _], _ => rfl
  have b5 := F5.binds (ps := ["tree"]) fun _ _ _ _ _ _ us hl => match us, hl with | [_], _ => rfl
  have b6 := F6.binds (ps := ["tree"]) fun _ _ _ _ _ _ us hl => match us, hl with | [_], _ => rfl
  have b7 := F7.binds (ps := ["_law_cell", "_law_seed_here"]) fun _ _ _ _ _ _ us hl => match us, hl with | [_, _], _ => rfl
  have b8 := F8.binds (ps := ["_law_pot_here", "_law_many"]) fun _ _ _ _ _ _ us hl => match us, hl with | [_, _], _ => rfl
  have b9 := F9.binds (ps := ["_law_script"]) fun _ _ _ _ _ _ us hl => match us, hl with | [_], _ => rfl
  have b10 := F10.binds (ps := ["_law_told", "_law_due"]) fun _ _ _ _ _ _ us hl => match us, hl with | [_, _], _ => rfl
  have b11 := F11.binds (ps := ["_law_pot_here"]) fun _ _ _ _ _ _ us hl => match us, hl with | [_], _ => rfl
  have b12 := F12.binds (ps := ["_law_pot_here", "_law_text_here"]) fun _ _ _ _ _ _ us hl => match us, hl with | [_, _], _ => rfl
  have b13 := F13.binds (ps := ["_law_pot_here", "_law_text_here", "_law_many"]) fun _ _ _ _ _ _ us hl => match us, hl with | [_, _, _], _ => rfl
  have b14 := F14.binds (ps := ["_law_text_here", "_law_rules_here", "_law_k"]) fun _ _ _ _ _ _ us hl => match us, hl with | [_, _, _], _ => rfl
  have b15 := F15.binds (ps := ["_law_script"]) fun _ _ _ _ _ _ us hl => match us, hl with | [_], _ => rfl
  refine ⟨_, fun s v => .of_eq rfl, fun base _ _ => glue F1 b1 (PySem.W.mg_of X G a1) F2 b2 (PySem.W.mg_of X G a2) F3 b3 (PySem.W.mg_of X G a3) F4 b4 (PySem.W.mg_of X G a4) F5 b5 (PySem.W.mg_of X G a5) F6 b6 (PySem.W.mg_of X G a6) F7 b7 (PySem.W.mg_of X G a7) F8 b8 (PySem.W.mg_of X G a8) F9 b9 (PySem.W.mg_of X G a9) F10 b10 (PySem.W.mg_of X G a10) F11 b11 (PySem.W.mg_of X G a11) F12 b12 (PySem.W.mg_of X G a12) F13 b13 (PySem.W.mg_of X G a13) F14 b14 (PySem.W.mg_of X G a14) F15 b15 (PySem.W.mg_of X G a15) (PySem.W.mg_none_of X G y1) (PySem.W.mg_none_of X G y2) (PySem.W.mg_none_of X G y3) (PySem.W.mg_none_of X G y4) (PySem.W.mg_none_of X G y5) (PySem.W.mg_none_of X G y6) (PySem.W.mg_none_of X G y7) (PySem.W.mg_none_of X G y8) (PySem.W.mg_none_of X G y9) (PySem.W.mg_none_of X G y10) (PySem.W.mg_none_of X G y11) (PySem.W.mg_none_of X G y12) (PySem.W.mg_none_of X G y13)⟩
end K14
open PySem PySem.W PyProof.Rows
set_option maxRecDepth 100000 in
set_option maxHeartbeats 0 in
theorem PySem.Challenge.cw_twainkeep_k14_whole_piece_by_piece_holds : PySem.Challenge.rw_twainkeep_k14_whole_piece_by_piece.Holds := by
  w_on; o_law; k_head; (case hw => w_witness2)
  k_fill
  refine L2.walk_of (l := PySem.Challenge.rw_twainkeep_k14_whole_piece_by_piece) (n := 63) (k := 9) (x := "_law_script") (CX := fun _ => L2.CX0) (sp := fun w => K14.spLaw _) rfl (by decide) rfl ⟨rfl, by decide, by decide⟩
    (fun w h Y => PySem.W.kIn_of Y) ?F (fun _ _ a ns hl _ hS => ⟨a, ns, rfl, hS, hl, fun _ => rfl⟩) (fun _ _ _ _ _ h => h)
  case F =>
    intro w mg fa h KX G hmg
    refine' K14.all_mk KX G hmg ?a1 ?l1 ?c1 ?k1 ?a2 ?l2 ?c2 ?k2 ?a3 ?l3 ?c3 ?k3 ?a4 ?l4 ?c4 ?k4 ?a5 ?l5 ?c5 ?k5 ?a6 ?l6 ?c6 ?k6 ?a7 ?l7 ?c7 ?k7 ?a8 ?l8 ?c8 ?k8 ?a9 ?l9 ?c9 ?k9 ?a10 ?l10 ?c10 ?k10 ?a11 ?l11 ?c11 ?k11 ?a12 ?l12 ?c12 ?k12 ?a13 ?l13 ?c13 ?k13 ?a14 ?l14 ?c14 ?k14 ?a15 ?l15 ?c15 ?k15 ?y1 ?y2 ?y3 ?y4 ?y5 ?y6 ?y7 ?y8 ?y9 ?y10 ?y11 ?y12 ?y13
    (case a1 => k_is); (case l1 => k_is); (case c1 => k_is); (case k1 => k_is)
    (case a2 => k_is); (case l2 => k_is); (case c2 => k_is); (case k2 => k_is)
    (case a3 => k_is); (case l3 => k_is); (case c3 => k_is); (case k3 => k_is)
    (case a4 => k_is); (case l4 => k_is); (case c4 => k_is); (case k4 => k_is)
    (case a5 => k_is); (case l5 => k_is); (case c5 => k_is); (case k5 => k_is)
    (case a6 => k_is); (case l6 => k_is); (case c6 => k_is); (case k6 => k_is)
    (case a7 => k_is); (case l7 => k_is); (case c7 => k_is); (case k7 => k_is)
    (case a8 => k_is); (case l8 => k_is); (case c8 => k_is); (case k8 => k_is)
    (case a9 => k_is); (case l9 => k_is); (case c9 => k_is); (case k9 => k_is)
    (case a10 => k_is); (case l10 => k_is); (case c10 => k_is); (case k10 => k_is)
    (case a11 => k_is); (case l11 => k_is); (case c11 => k_is); (case k11 => k_is)
    (case a12 => k_is); (case l12 => k_is); (case c12 => k_is); (case k12 => k_is)
    (case a13 => k_is); (case l13 => k_is); (case c13 => k_is); (case k13 => k_is)
    (case a14 => k_is); (case l14 => k_is); (case c14 => k_is); (case k14 => k_is)
    (case a15 => k_is); (case l15 => k_is); (case c15 => k_is); (case k15 => k_is)
    (case y1 => k_is); (case y2 => k_is); (case y3 => k_is); (case y4 => k_is)
    (case y5 => k_is); (case y6 => k_is); (case y7 => k_is); (case y8 => k_is)
    (case y9 => k_is); (case y10 => k_is); (case y11 => k_is); (case y12 => k_is)
    (case y13 => k_is)
