import PyProof.Rows.All
import Wide.All
import OpenK.AllK
import Wide.FinOn
import KE.KStateDown
import Lean
import HandS.ForMost
import HandS.WordsExc
import HandS.Defaults
import HandS.Lambda
import HandS.EndTab
import HandS.Head0
import HandS.Head1
import HandS.Head2
import HandS.HeadEnd
import HandS.HeadHook1
import HandS.HeadHook2
import HandS.HeadHook3
import HandS.HeadHook4
import HandS.HeadWalk
import PySem.Challenge.RW_nobodystays_k01_whole_groups
import HandS.Strs
import HandS.SetFor
import HandS.IsInst
import HandS.Conv
import HandS.TupAny
import HandS.Deep
import HandS.TupLen
import PyProof.TupleOfSeq
import KE.KDictSum
import KE.KDictDisplayH
import HandS.SortInts
import HandS.TupSets
import HandS.DictTup
import HandS.AnyAll
import HandS.Walk
import HandS.Nested
import HandS.GenOver
import KE.GoesMore
import PyProof.EnumMake
import PyProof.Draws
import HandS.Iter
set_option Elab.async false
set_option linter.all false
set_option maxRecDepth 100000
set_option maxHeartbeats 0
/-! the head: what the top leaves, read by names -/
namespace NB
open PySem PySem.Spec PyProof.Rows L2
def topS (i : Nat) : Stmt := PySem.Challenge.pw_nobodystays_k01_whole_groups.main.body.getD i (.Pass ⟨0, 0, 0, 0⟩)
abbrev s_is_number : Stmt := topS 11
abbrev s_is_turn : Stmt := topS 12
abbrev s_wrong_part : Stmt := topS 13
abbrev s_need_house : Stmt := topS 14
abbrev s_need_turn : Stmt := topS 15
abbrev s_still : Stmt := topS 16
abbrev s_then : Stmt := topS 17
abbrev s_back : Stmt := topS 18
abbrev s_members_of : Stmt := topS 19
abbrev s_members : Stmt := topS 20
abbrev s_order : Stmt := topS 21
abbrev s_is_member : Stmt := topS 22
abbrev s_made : Stmt := topS 23
abbrev s_lots_of : Stmt := topS 24
abbrev s_parts_of : Stmt := topS 25
abbrev s_parts : Stmt := topS 26
abbrev s_is_transitive : Stmt := topS 27
abbrev s_pair_lots_of : Stmt := topS 28
abbrev s_rank : Stmt := topS 29
abbrev s_likes_of : Stmt := topS 30
abbrev s_likes : Stmt := topS 31
abbrev s_stayers_of : Stmt := topS 33
abbrev s_stayers : Stmt := topS 34
abbrev s_table_of : Stmt := topS 35
abbrev s_table : Stmt := topS 36
abbrev s_rings_of : Stmt := topS 37
abbrev s_rings : Stmt := topS 38
abbrev s_law_taken : Stmt := topS 40
abbrev s_law_pick : Stmt := topS 41
abbrev s_law_alike : Stmt := topS 42
abbrev s_law_turn : Stmt := topS 43
abbrev s_law_circle : Stmt := topS 44
abbrev s_law_members : Stmt := topS 45
abbrev s_law_known_groups : Stmt := topS 46
abbrev s_law_mixed : Stmt := topS 47
abbrev s_law_whole : Stmt := topS 48
abbrev s_law_house : Stmt := topS 49
abbrev s_law_stayers : Stmt := topS 50
abbrev s_law_undone : Stmt := topS 51
abbrev s_law_then : Stmt := topS 52
abbrev s_law_pairs : Stmt := topS 53
abbrev s_law_parts : Stmt := topS 54
abbrev s_law_rings : Stmt := topS 55
abbrev s_law : Stmt := topS 56
def mkD (x : Str) (st : Stmt) : He.DefD := ⟨(x, none), x, x, defArgs st, defBody st, defScope st, [], []⟩
def fn0 : List He.DefD := [mkD "is_number" s_is_number, mkD "is_turn" s_is_turn, mkD "wrong_part" s_wrong_part, mkD "need_house" s_need_house, mkD "need_turn" s_need_turn, mkD "still" s_still, mkD "then" s_then, mkD "back" s_back, mkD "members_of" s_members_of, mkD "members" s_members, mkD "order" s_order, mkD "is_member" s_is_member, mkD "made" s_made, mkD "lots_of" s_lots_of, mkD "parts_of" s_parts_of]
def fn1 : List He.DefD := [mkD "parts" s_parts, mkD "is_transitive" s_is_transitive, mkD "pair_lots_of" s_pair_lots_of, mkD "rank" s_rank, mkD "likes_of" s_likes_of, mkD "likes" s_likes, mkD "stayers_of" s_stayers_of, mkD "stayers" s_stayers, mkD "table_of" s_table_of, mkD "table" s_table, mkD "rings_of" s_rings_of, mkD "rings" s_rings, mkD "_law_taken" s_law_taken, mkD "_law_pick" s_law_pick, mkD "_law_alike" s_law_alike]
def fn2 : List He.DefD := [mkD "_law_turn" s_law_turn, mkD "_law_circle" s_law_circle, mkD "_law_members" s_law_members, mkD "_law_known_groups" s_law_known_groups, mkD "_law_mixed" s_law_mixed, mkD "_law_whole" s_law_whole, mkD "_law_house" s_law_house, mkD "_law_stayers" s_law_stayers, mkD "_law_undone" s_law_undone, mkD "_law_then" s_law_then, mkD "_law_pairs" s_law_pairs, mkD "_law_parts" s_law_parts, mkD "_law_rings" s_law_rings, mkD "law" s_law]
def fn : List He.DefD := fn0 ++ (fn1 ++ (fn2))
def fa0 : List He.Fa := [.glo "is_number", .glo "is_turn", .glo "wrong_part", .glo "need_house", .glo "need_turn", .glo "still", .glo "then", .glo "back", .glo "members_of", .glo "members", .glo "order", .glo "is_member", .glo "made", .glo "lots_of", .glo "parts_of"]
def fa1 : List He.Fa := [.glo "parts", .glo "is_transitive", .glo "pair_lots_of", .glo "rank", .glo "likes_of", .glo "likes", .glo "stayers_of", .glo "stayers", .glo "table_of", .glo "table", .glo "rings_of", .glo "rings", .glo "_law_taken", .glo "_law_pick", .glo "_law_alike"]
def fa2 : List He.Fa := [.glo "_law_turn", .glo "_law_circle", .glo "_law_members", .glo "_law_known_groups", .glo "_law_mixed", .glo "_law_whole", .glo "_law_house", .glo "_law_stayers", .glo "_law_undone", .glo "_law_then", .glo "_law_pairs", .glo "_law_parts", .glo "_law_rings", .glo "law"]
def faB : List He.Fa := [.free "isinstance", .free "int", .free "bool", .free "tuple", .free "list", .free "range", .free "len", .free "all", .free "sorted", .free "enumerate", .free "set", .free "sum", .free "str", .int "MOST_HALLS" 8, .int "MOST_TURNS" 6, .int "MOST_MEMBERS" 5040, .int "MOST_ROW" 100]
def fa : List He.Fa := fa0 ++ (fa1 ++ (fa2 ++ (faB)))
def tf : List He.Defn := [("is_turn", none), ("wrong_part", none), ("parts_of", none), ("pair_lots_of", none), ("likes_of", none)]
def loose0 : List PySem.Str := ["TurnError", "BadHouse", "BadTurn", "BadRow", "TooMany", "MOST_HALLS", "MOST_TURNS", "MOST_MEMBERS", "MOST_ROW", "is_number", "is_turn", "wrong_part", "need_house", "need_turn", "still"]
def loose1 : List PySem.Str := ["then", "back", "members_of", "members", "order", "is_member", "made", "lots_of", "parts_of", "parts", "is_transitive", "pair_lots_of", "rank", "likes_of", "likes"]
def loose2 : List PySem.Str := ["stayers_of", "stayers", "table_of", "table", "rings_of", "rings", "_law_taken", "_law_pick", "_law_alike", "_law_turn", "_law_circle", "_law_members", "_law_known_groups", "_law_mixed", "_law_whole"]
def loose3 : List PySem.Str := ["_law_house", "_law_stayers", "_law_undone", "_law_then", "_law_pairs", "_law_parts", "_law_rings"]
def loose : List PySem.Str := loose0 ++ (loose1 ++ (loose2 ++ (loose3)))
abbrev R : PySem.W.OpenRow := PySem.W.OpenLaw.row PySem.Challenge.rw_nobodystays_k01_whole_groups
def neB (a b : Nat) : Bool := !(Nat.beq a b)
def apart5 : List Addr → Bool
  | [a, b, c, d, e] => neB a b && (neB a c && (neB a d && (neB a e && (neB b c && (neB b d && (neB b e && (neB c d && (neB c e && neB d e))))))))
  | _ => false
def apart (K : PySem.W.Frag) : Bool := apart5 (tf.map fun p => (He.cT K p).2)
abbrev hk : PySem.W.Hook := He.hookX 4 fa fn [] tf apart
def ob (s : PySem.W.SharedT) : He.AlX := He.obsX 4 fa fn [] tf apart (HandSHeadRun.getT s)
theorem ob_eq (s : PySem.W.SharedT) : ob s = hk.obs s.abs := He.obsX_eq (HandSHeadRun.getT_eq s)
theorem run (w : World) : HandSHeadRun.RunEq R (PySem.W.view R.prog [56]) hk ob 6000 loose w := by
  intro os
  kernel_rfl
end NB
/-! plain mathematics: lists without repeats, turns, reachability, orbits, orbit counting -/
namespace NB

/-! ### lists without repeats -/
theorem erase_len {α : Type} [DecidableEq α] : ∀ (l : List α) (x : α), x ∈ l → (l.erase x).length + 1 = l.length
  | [], x, h => by simp at h
  | y :: l, x, h => by
    rw [List.length_erase_of_mem h]
    have : 0 < (y :: l).length := by simp
    omega
theorem nd_len {α : Type} [DecidableEq α] : ∀ (l m : List α), l.Nodup → (∀ x ∈ l, x ∈ m) → l.length ≤ m.length
  | [], _, _, _ => Nat.zero_le _
  | x :: l, m, hn, hs => by
    obtain ⟨h1, h2⟩ := List.nodup_cons.mp hn
    have hx : x ∈ m := hs x List.mem_cons_self
    have ih := nd_len l (m.erase x) h2 fun y hy => by
      have hne : y ≠ x := fun e => h1 (e ▸ hy)
      exact (List.mem_erase_of_ne hne).2 (hs y (List.mem_cons_of_mem _ hy))
    have e := erase_len m x hx
    rw [List.length_cons]
    omega
/-- no room: all of m is in l -/
theorem nd_full {α : Type} [DecidableEq α] {l m : List α} (hn : l.Nodup) (hs : ∀ x ∈ l, x ∈ m) (hl : m.length ≤ l.length) : ∀ x ∈ m, x ∈ l := fun x hx => by
  refine Classical.byContradiction fun h => ?_
  have q := nd_len (x :: l) m (List.nodup_cons.mpr ⟨h, hn⟩) fun y hy => by
    rcases List.mem_cons.mp hy with e | e
    · rw [e]; exact hx
    · exact hs y e
  rw [List.length_cons] at q
  omega
theorem nd_map {α β : Type} {f : α → β} : ∀ {l : List α}, l.Nodup → (∀ x ∈ l, ∀ y ∈ l, f x = f y → x = y) → (l.map f).Nodup
  | [], _, _ => by simp
  | x :: l, hn, hi => by
    obtain ⟨h1, h2⟩ := List.nodup_cons.mp hn
    rw [List.map_cons]
    refine List.nodup_cons.mpr ⟨fun h => ?_, nd_map h2 fun a ha b hb => hi a (List.mem_cons_of_mem _ ha) b (List.mem_cons_of_mem _ hb)⟩
    obtain ⟨y, hy, e⟩ := List.mem_map.mp h
    have e2 := hi y (List.mem_cons_of_mem _ hy) x List.mem_cons_self e
    exact h1 (e2 ▸ hy)
/-- an injection of a finite list into itself is onto -/
theorem nd_onto {α : Type} [DecidableEq α] {l : List α} {f : α → α} (hn : l.Nodup) (hm : ∀ x ∈ l, f x ∈ l) (hi : ∀ x ∈ l, ∀ y ∈ l, f x = f y → x = y) : ∀ z ∈ l, ∃ x ∈ l, f x = z := fun z hz => by
  have q := nd_full (l := l.map f) (m := l) (nd_map hn hi) (fun x hx => by
    obtain ⟨y, hy, e⟩ := List.mem_map.mp hx
    rw [← e]
    exact hm y hy) (by rw [List.length_map]; exact Nat.le_refl _) z hz
  obtain ⟨x, hx, e⟩ := List.mem_map.mp q
  exact ⟨x, hx, e⟩
theorem perm_mem {α : Type} [DecidableEq α] {l m : List α} (hl : l.Nodup) (hm : m.Nodup) (h : ∀ x, x ∈ l ↔ x ∈ m) : l.Perm m := (List.perm_ext_iff_of_nodup hl hm).mpr h

/-! ### strictly sorted lists are told by their items -/
theorem sorted_uniq {α : Type} {lt : α → α → Prop} (irr : ∀ x, ¬ lt x x) (tr : ∀ x y z, lt x y → lt y z → lt x z) : ∀ {l m : List α}, l.Pairwise lt → m.Pairwise lt → (∀ x, x ∈ l ↔ x ∈ m) → l = m
  | [], [], _, _, _ => rfl
  | [], y :: m, _, _, h => absurd ((h y).mpr List.mem_cons_self) (by simp)
  | x :: l, [], _, _, h => absurd ((h x).mp List.mem_cons_self) (by simp)
  | x :: l, y :: m, hl, hm, h => by
    obtain ⟨hl1, hl2⟩ := List.pairwise_cons.mp hl
    obtain ⟨hm1, hm2⟩ := List.pairwise_cons.mp hm
    have e : x = y := by
      rcases List.mem_cons.mp ((h x).mp List.mem_cons_self) with e | hx
      · exact e
      · rcases List.mem_cons.mp ((h y).mpr List.mem_cons_self) with e | hy
        · exact e.symm
        · exact absurd (tr _ _ _ (hm1 x hx) (hl1 y hy)) (irr _)
    subst e
    have hx1 : x ∉ l := fun q => irr _ (hl1 x q)
    have hx2 : x ∉ m := fun q => irr _ (hm1 x q)
    rw [sorted_uniq irr tr hl2 hm2 fun z => ?_]
    constructor
    · intro hz
      rcases List.mem_cons.mp ((h z).mp (List.mem_cons_of_mem _ hz)) with e | q
      · exact absurd (e ▸ hz) hx1
      · exact q
    · intro hz
      rcases List.mem_cons.mp ((h z).mpr (List.mem_cons_of_mem _ hz)) with e | q
      · exact absurd (e ▸ hz) hx2
      · exact q

/-! ### the order of tuples -/
def lexN : List Nat → List Nat → Bool
  | [], [] => false
  | [], _ :: _ => true
  | _ :: _, [] => false
  | x :: xs, y :: ys => if x = y then lexN xs ys else decide (x < y)
theorem lexN_irr : ∀ x, lexN x x = false
  | [] => rfl
  | x :: xs => by simp [lexN, lexN_irr xs]
theorem lexN_tr : ∀ x y z, lexN x y = true → lexN y z = true → lexN x z = true
  | [], [], z, h, _ => by simp [lexN] at h
  | [], _ :: _, [], _, h => by simp [lexN] at h
  | [], _ :: _, _ :: _, _, _ => rfl
  | _ :: _, [], z, h, _ => by simp [lexN] at h
  | _ :: _, _ :: _, [], _, h => by simp [lexN] at h
  | x :: xs, y :: ys, z :: zs, h1, h2 => by
    simp only [lexN] at h1 h2 ⊢
    by_cases e1 : x = y
    · subst e1
      by_cases e2 : x = z
      · subst e2
        simp only [if_pos rfl] at h1 h2 ⊢
        exact lexN_tr xs ys zs h1 h2
      · rw [if_neg e2] at h2 ⊢
        exact h2
    · rw [if_neg e1] at h1
      have l1 : x < y := of_decide_eq_true h1
      by_cases e2 : y = z
      · subst e2
        rw [if_neg e1]
        exact h1
      · rw [if_neg e2] at h2
        have l2 : y < z := of_decide_eq_true h2
        rw [if_neg (by omega)]
        exact decide_eq_true (by omega)
theorem lexN_tot : ∀ x y, lexN x y = false → lexN y x = false → x = y
  | [], [], _, _ => rfl
  | [], _ :: _, h, _ => by simp [lexN] at h
  | _ :: _, [], _, h => by simp [lexN] at h
  | x :: xs, y :: ys, h1, h2 => by
    simp only [lexN] at h1 h2
    by_cases e : x = y
    · subst e
      simp only [if_pos rfl] at h1 h2
      rw [lexN_tot xs ys h1 h2]
    · rw [if_neg e] at h1
      rw [if_neg (fun q => e q.symm)] at h2
      have l1 := of_decide_eq_false h1
      have l2 := of_decide_eq_false h2
      omega
theorem lexN_asym (x y : List Nat) (h : lexN x y = true) : lexN y x = false := by
  cases e : lexN y x with
  | false => rfl
  | true => rw [← lexN_irr x, ← lexN_tr x y x h e]
/-- sorted by turns that are not less, and no item twice: strictly -/
theorem strict_of {l : List (List Nat)} (h : l.Pairwise fun x y => lexN y x = false) (hn : l.Nodup) : l.Pairwise fun x y => lexN x y = true := by
  refine List.Pairwise.imp₂ (fun {x y} h1 h2 => ?_) h hn
  cases e : lexN x y with
  | true => rfl
  | false => exact absurd (lexN_tot x y e h1) h2
theorem lexN_uniq {l m : List (List Nat)} (hl : l.Pairwise fun x y => lexN x y = true) (hm : m.Pairwise fun x y => lexN x y = true) (h : ∀ x, x ∈ l ↔ x ∈ m) : l = m :=
  sorted_uniq (lt := fun x y => lexN x y = true) (fun x q => by rw [lexN_irr] at q; cases q) lexN_tr hl hm h
theorem nat_uniq {l m : List Nat} (hl : l.Pairwise (· < ·)) (hm : m.Pairwise (· < ·)) (h : ∀ x, x ∈ l ↔ x ∈ m) : l = m :=
  sorted_uniq (lt := fun x y : Nat => x < y) (fun x => Nat.lt_irrefl x) (fun x y z => Nat.lt_trans) hl hm h

/-! ### turns -/
abbrev Tn := List Nat
/-- a turn of n halls -/
def IsTn (n : Nat) (t : Tn) : Prop := t.Perm (List.range n)
def thn (a b : Tn) : Tn := a.map fun h => b.getD h 0
def bck (a : Tn) : Tn := (List.range a.length).map fun h => a.idxOf h
section
variable {n : Nat} {a b c t : Tn}
theorem IsTn.len (h : IsTn n t) : t.length = n := by rw [h.length_eq, List.length_range]
theorem IsTn.nd (h : IsTn n t) : t.Nodup := h.nodup_iff.mpr List.nodup_range
theorem IsTn.mem (h : IsTn n t) {x : Nat} : x ∈ t ↔ x < n := by rw [h.mem_iff, List.mem_range]
theorem IsTn.at (h : IsTn n t) {x : Nat} (hx : x < n) : t.getD x 0 < n := by
  have hl := h.len
  rw [List.getD_eq_getElem?_getD, List.getElem?_eq_getElem (by omega)]
  exact h.mem.mp (List.getElem_mem _)
theorem isTn_still : IsTn n (List.range n) := List.Perm.refl _
theorem map_getD_range (b : Tn) (hb : b.length = n) : (List.range n).map (fun h => b.getD h 0) = b := by
  refine List.ext_getElem (by simp [hb]) fun i h1 h2 => ?_
  simp [List.getElem?_eq_getElem h2]
theorem IsTn.thn (ha : IsTn n a) (hb : IsTn n b) : IsTn n (thn a b) := by
  have q := ha.map fun h => b.getD h 0
  rw [map_getD_range b hb.len] at q
  exact q.trans hb
theorem thn_getD {x : Nat} (hx : x < a.length) : (NB.thn a b).getD x 0 = b.getD (a.getD x 0) 0 := by
  unfold NB.thn
  rw [List.getD_eq_getElem?_getD, List.getElem?_map, List.getElem?_eq_getElem hx, List.getD_eq_getElem?_getD (l := a), List.getElem?_eq_getElem hx]
  rfl
theorem thn_assoc (ha : IsTn n a) (hb : IsTn n b) : NB.thn (NB.thn a b) c = NB.thn a (NB.thn b c) := by
  show (a.map fun h => b.getD h 0).map _ = a.map fun h => (NB.thn b c).getD h 0
  rw [List.map_map]
  refine List.map_congr_left fun x hx => ?_
  have hx' := ha.mem.mp hx
  rw [thn_getD (by rw [hb.len]; exact hx')]
  rfl
theorem still_thn (hb : IsTn n b) : NB.thn (List.range n) b = b := map_getD_range b hb.len
theorem thn_still (ha : IsTn n a) : NB.thn a (List.range n) = a := by
  show a.map (fun h => (List.range n).getD h 0) = a
  have e : a.map (fun h => (List.range n).getD h 0) = a.map id := List.map_congr_left fun x hx => by
    have hx' := ha.mem.mp hx
    simp [List.getElem?_range hx']
  rw [e, List.map_id]
theorem bck_thn (ha : IsTn n a) : NB.thn (bck a) a = List.range n := by
  unfold bck NB.thn
  rw [List.map_map, ha.len]
  have e : (List.range n).map ((fun h => a.getD h 0) ∘ fun h => a.idxOf h) = (List.range n).map id := List.map_congr_left fun x hx => by
    have hm : x ∈ a := ha.mem.mpr (List.mem_range.mp hx)
    have hl : a.idxOf x < a.length := List.idxOf_lt_length_iff.mpr hm
    show a.getD (a.idxOf x) 0 = x
    rw [List.getD_eq_getElem?_getD, List.getElem?_eq_getElem hl]
    exact List.getElem_idxOf hl
  rw [e, List.map_id]
theorem thn_bck (ha : IsTn n a) : NB.thn a (bck a) = List.range n := by
  have hl := ha.len
  refine List.ext_getElem (by simp [NB.thn, hl]) fun i h1 h2 => ?_
  have hi : i < a.length := by simpa [NB.thn] using h1
  have hb : a[i] < n := ha.mem.mp (List.getElem_mem hi)
  have e : a.idxOf a[i] = i := List.Nodup.idxOf_getElem ha.nd i hi
  simp [NB.thn, bck, hl, hb, e]
theorem isTn_bck (ha : IsTn n a) : IsTn n (bck a) := by
  have hl := ha.len
  have nd : (bck a).Nodup := by
    unfold bck
    refine nd_map List.nodup_range fun x hx y hy e => ?_
    have hx' : x ∈ a := ha.mem.mpr (by rw [← hl]; exact List.mem_range.mp hx)
    have hy' : y ∈ a := ha.mem.mpr (by rw [← hl]; exact List.mem_range.mp hy)
    have e1 := List.getElem_idxOf (List.idxOf_lt_length_iff.mpr hx')
    have e2 := List.getElem_idxOf (List.idxOf_lt_length_iff.mpr hy')
    rw [← e1, ← e2]
    exact getElem_congr_idx e
  have ml : ∀ x ∈ bck a, x ∈ List.range n := fun x hx => by
    unfold bck at hx
    obtain ⟨y, hy, e⟩ := List.mem_map.mp hx
    have hy' : y ∈ a := ha.mem.mpr (by rw [← hl]; exact List.mem_range.mp hy)
    rw [List.mem_range, ← e, ← hl]
    exact List.idxOf_lt_length_iff.mpr hy'
  refine perm_mem nd List.nodup_range fun x => ⟨ml x, fun hx => ?_⟩
  exact nd_full nd ml (by simp [bck, hl]) x hx
theorem thn_cancel_l (ha : IsTn n a) (hb : IsTn n b) (hc : IsTn n c) (e : NB.thn a b = NB.thn a c) : b = c := by
  have q := congrArg (NB.thn (bck a)) e
  rw [← thn_assoc (isTn_bck ha) ha, ← thn_assoc (isTn_bck ha) ha, bck_thn ha, still_thn hb, still_thn hc] at q
  exact q
theorem thn_cancel_r (ha : IsTn n a) (hb : IsTn n b) (hc : IsTn n c) (e : NB.thn b a = NB.thn c a) : b = c := by
  have q := congrArg (fun z => NB.thn z (bck a)) e
  have q : NB.thn (NB.thn b a) (bck a) = NB.thn (NB.thn c a) (bck a) := q
  rw [thn_assoc hb ha, thn_assoc hc ha, thn_bck ha, thn_still hb, thn_still hc] at q
  exact q
theorem bck_uniq (ha : IsTn n a) (hb : IsTn n b) (e : NB.thn a b = List.range n) : b = bck a := by
  refine thn_cancel_l ha hb (isTn_bck ha) ?_
  rw [e, thn_bck ha]
theorem bck_still : bck (List.range n) = List.range n := (bck_uniq isTn_still isTn_still (still_thn isTn_still)).symm
theorem bck_mul (ha : IsTn n a) (hb : IsTn n b) : bck (NB.thn a b) = NB.thn (bck b) (bck a) := by
  refine (bck_uniq (ha.thn hb) ((isTn_bck hb).thn (isTn_bck ha)) ?_).symm
  rw [thn_assoc ha hb, ← thn_assoc hb (isTn_bck hb), thn_bck hb, still_thn (isTn_bck ha), thn_bck ha]
end

/-! ### what is reached -/
inductive RT {α : Type} (st : α → α → Prop) (x : α) : α → Prop
  | refl : RT st x x
  | tail {y z : α} : RT st x y → st y z → RT st x z
theorem RT.trans {α : Type} {st : α → α → Prop} {x y z : α} (h : RT st x y) (h2 : RT st y z) : RT st x z := by
  induction h2 with
  | refl => exact h
  | tail _ s ih => exact ih.tail s
theorem RT.one {α : Type} {st : α → α → Prop} {x y : α} (h : st x y) : RT st x y := RT.refl.tail h
theorem RT.inv {α : Type} {st : α → α → Prop} {P : α → Prop} (hs : ∀ a b, P a → st a b → P b) {x y : α} (h : RT st x y) (hx : P x) : P y := by
  induction h with
  | refl => exact hx
  | tail _ s ih => exact hs _ _ ih s

/-! ### the group -/
abbrev stepT (ts : List Tn) : Tn → Tn → Prop := fun a b => ∃ t ∈ ts, b = thn a t
/-- S: all turns that rows make -/
structure Grp (n : Nat) (ts : List Tn) (S : List Tn) : Prop where
  ok : ∀ t ∈ ts, IsTn n t
  nd : S.Nodup
  mem : ∀ x, x ∈ S ↔ RT (stepT ts) (List.range n) x
section
variable {n : Nat} {ts S : List Tn}
theorem rt_isTn (ok : ∀ t ∈ ts, IsTn n t) {x y : Tn} (h : RT (stepT ts) x y) (hx : IsTn n x) : IsTn n y :=
  h.inv (P := IsTn n) (fun a b ha ⟨t, ht, e⟩ => by rw [e]; exact ha.thn (ok t ht)) hx
theorem Grp.isT (G : Grp n ts S) {x : Tn} (hx : x ∈ S) : IsTn n x := rt_isTn G.ok ((G.mem x).mp hx) isTn_still
theorem Grp.one (G : Grp n ts S) : List.range n ∈ S := (G.mem _).mpr .refl
theorem Grp.mul (G : Grp n ts S) {x y : Tn} (hx : x ∈ S) (hy : y ∈ S) : thn x y ∈ S := by
  have h := (G.mem y).mp hy
  have key : IsTn n y ∧ thn x y ∈ S := by
    clear hy
    induction h with
    | refl => exact ⟨isTn_still, by rw [thn_still (G.isT hx)]; exact hx⟩
    | tail _ s ih =>
      obtain ⟨t, ht, e⟩ := s
      obtain ⟨i1, i2⟩ := ih
      rw [e]
      refine ⟨i1.thn (G.ok t ht), ?_⟩
      rw [← thn_assoc (G.isT hx) i1]
      exact (G.mem _).mpr (((G.mem _).mp i2).tail ⟨t, ht, rfl⟩)
  exact key.2
theorem Grp.inv (G : Grp n ts S) {x : Tn} (hx : x ∈ S) : bck x ∈ S := by
  obtain ⟨y, hy, e⟩ := nd_onto (l := S) (f := fun y => thn x y) G.nd (fun y hy => G.mul hx hy) (fun y hy z hz e => thn_cancel_l (G.isT hx) (G.isT hy) (G.isT hz) e) _ G.one
  rw [← bck_uniq (G.isT hx) (G.isT hy) e]
  exact hy
end

/-! ### the group acts -/
structure Act (n : Nat) {α : Type} (dom : α → Prop) (act : Tn → α → α) : Prop where
  one : ∀ x, dom x → act (List.range n) x = x
  mul : ∀ g h x, IsTn n g → IsTn n h → dom x → act (thn g h) x = act h (act g x)
  dm : ∀ g x, IsTn n g → dom x → dom (act g x)
section
variable {n : Nat} {ts S : List Tn} {α : Type} {dom : α → Prop} {act : Tn → α → α}
abbrev stepA (ts : List Tn) (act : Tn → α → α) : α → α → Prop := fun a b => ∃ t ∈ ts, b = act t a
theorem reach_iff (G : Grp n ts S) (A : Act n dom act) {x y : α} (hx : dom x) : RT (stepA ts act) x y ↔ ∃ g ∈ S, act g x = y := by
  constructor
  · intro h
    induction h with
    | refl => exact ⟨_, G.one, A.one x hx⟩
    | tail _ s ih =>
      obtain ⟨t, ht, e⟩ := s
      obtain ⟨g, hg, eg⟩ := ih
      refine ⟨thn g t, (G.mem _).mpr (((G.mem _).mp hg).tail ⟨t, ht, rfl⟩), ?_⟩
      rw [A.mul g t x (G.isT hg) (G.ok t ht) hx, eg, e]
  · rintro ⟨g, hg, e⟩
    rw [← e]
    have h := (G.mem g).mp hg
    clear e hg
    have key : IsTn n g ∧ RT (stepA ts act) x (act g x) := by
      induction h with
      | refl =>
        refine ⟨isTn_still, ?_⟩
        rw [A.one x hx]
        exact .refl
      | tail _ s ih =>
        obtain ⟨t, ht, e⟩ := s
        obtain ⟨i1, i2⟩ := ih
        rw [e]
        refine ⟨i1.thn (G.ok t ht), ?_⟩
        rw [A.mul _ t x i1 (G.ok t ht) hx]
        exact i2.tail ⟨t, ht, rfl⟩
    exact key.2
theorem reach_symm (G : Grp n ts S) (A : Act n dom act) {x y : α} (hx : dom x) (h : RT (stepA ts act) x y) : RT (stepA ts act) y x := by
  obtain ⟨g, hg, e⟩ := (reach_iff G A hx).mp h
  have hy : dom y := by rw [← e]; exact A.dm g x (G.isT hg) hx
  refine (reach_iff G A hy).mpr ⟨bck g, G.inv hg, ?_⟩
  rw [← e, ← A.mul g (bck g) x (G.isT hg) (isTn_bck (G.isT hg)) hx, thn_bck (G.isT hg), A.one x hx]
end
theorem act_hall (n : Nat) : Act n (fun x : Nat => x < n) (fun g x => g.getD x 0) where
  one := fun x hx => by simp [List.getElem?_range hx]
  mul := fun g h x hg hh hx => thn_getD (by rw [hg.len]; exact hx)
  dm := fun g x hg hx => hg.at hx
/-- a pair of halls as a list of two -/
abbrev ap2 (g : Tn) (p : List Nat) : List Nat := p.map fun h => g.getD h 0
theorem act_pair (n : Nat) : Act n (fun p : List Nat => p.length = 2 ∧ ∀ x ∈ p, x < n) ap2 where
  one := fun p hp => by
    show p.map _ = p
    have e : p.map (fun h => (List.range n).getD h 0) = p.map id := List.map_congr_left fun x hx => by
      simp [List.getElem?_range (hp.2 x hx)]
    rw [e, List.map_id]
  mul := fun g h p hg hh hp => by
    show p.map _ = (p.map _).map _
    rw [List.map_map]
    refine List.map_congr_left fun x hx => ?_
    exact thn_getD (by rw [hg.len]; exact hp.2 x hx)
  dm := fun g p hg hp => ⟨by rw [List.length_map]; exact hp.1, fun x hx => by
    obtain ⟨y, hy, e⟩ := List.mem_map.mp hx
    rw [← e]
    exact hg.at (hp.2 y hy)⟩
/-- the like of a by g -/
abbrev cnj (g a : Tn) : Tn := thn (thn (bck g) a) g
theorem act_cnj (n : Nat) : Act n (IsTn n) cnj where
  one := fun x hx => by
    show thn (thn (bck (List.range n)) x) (List.range n) = x
    rw [bck_still, still_thn hx, thn_still hx]
  mul := fun g h x hg hh hx => by
    show thn (thn (bck (thn g h)) x) (thn g h) = thn (thn (bck h) (thn (thn (bck g) x) g)) h
    have ig := isTn_bck hg
    have ih := isTn_bck hh
    rw [bck_mul hg hh, thn_assoc ih ig, ← thn_assoc (ih.thn (ig.thn hx)) hg, thn_assoc ih (ig.thn hx)]
  dm := fun g x hg hx => ((isTn_bck hg).thn hx).thn hg

/-! ### one of each lot -/
def outR {α : Type} (r : α → α → Bool) (x : α) (l : List α) : List α := l.filter fun y => !r x y
theorem outR_len {α : Type} (r : α → α → Bool) (x : α) (l : List α) : (outR r x l).length ≤ l.length := List.length_filter_le _ _
def reps {α : Type} (r : α → α → Bool) : List α → List α
  | [] => []
  | x :: l => x :: reps r (outR r x l)
termination_by l => l.length
decreasing_by exact Nat.lt_succ_of_le (outR_len r x l)
section
variable {α : Type} {r : α → α → Bool}
theorem reps_nil : reps r [] = [] := by rw [reps]
theorem reps_cons (x : α) (l : List α) : reps r (x :: l) = x :: reps r (l.filter fun y => !r x y) := by
  rw [reps]
  all_goals rfl
theorem reps_sub : ∀ (n : Nat) (l : List α), l.length ≤ n → ∀ x ∈ reps r l, x ∈ l
  | _, [], _, x, h => by rw [reps_nil] at h; exact h
  | 0, _ :: _, hn, _, _ => by simp at hn
  | n + 1, y :: l, hn, x, h => by
    rw [reps_cons] at h
    rcases List.mem_cons.mp h with e | h
    · rw [e]; exact List.mem_cons_self
    · have q := reps_sub n (l.filter fun y' => !r y y') (Nat.le_trans (List.length_filter_le _ _) (by simpa using hn)) x h
      exact List.mem_cons_of_mem _ (List.mem_filter.mp q).1
/-- every item is like one of them -/
theorem reps_cov (rf : ∀ x, r x x = true) : ∀ (n : Nat) (l : List α), l.length ≤ n → ∀ x ∈ l, ∃ y ∈ reps r l, r y x = true
  | _, [], _, x, h => by simp at h
  | 0, _ :: _, hn, _, _ => by simp at hn
  | n + 1, y :: l, hn, x, h => by
    rw [reps_cons]
    cases q : r y x with
    | true => exact ⟨y, List.mem_cons_self, q⟩
    | false =>
      rcases List.mem_cons.mp h with e | h
      · rw [e, rf] at q; cases q
      · obtain ⟨z, hz, e⟩ := reps_cov rf n (l.filter fun y' => !r y y') (Nat.le_trans (List.length_filter_le _ _) (by simpa using hn)) x (List.mem_filter.mpr ⟨h, by simp [q]⟩)
        exact ⟨z, List.mem_cons_of_mem _ hz, e⟩
/-- no two of them are like -/
theorem reps_apart : ∀ (n : Nat) (l : List α), l.length ≤ n → (reps r l).Pairwise fun x y => r x y = false
  | _, [], _ => by rw [reps_nil]; exact List.Pairwise.nil
  | 0, _ :: _, hn => by simp at hn
  | n + 1, y :: l, hn => by
    have hl : (l.filter fun y' => !r y y').length ≤ n := Nat.le_trans (List.length_filter_le _ _) (by simpa using hn)
    rw [reps_cons]
    refine List.pairwise_cons.mpr ⟨fun z hz => ?_, reps_apart n _ hl⟩
    have q := (List.mem_filter.mp (reps_sub n _ hl z hz)).2
    simpa using q
end

/-! ### sums -/
def sumN : List Nat → Nat
  | [] => 0
  | x :: l => x + sumN l
theorem sumN_app : ∀ l m : List Nat, sumN (l ++ m) = sumN l + sumN m
  | [], m => by simp [sumN]
  | x :: l, m => by simp [sumN, sumN_app l m]; omega
section
variable {α β : Type}
theorem sumN_add (f g : α → Nat) : ∀ l : List α, sumN (l.map fun x => f x + g x) = sumN (l.map f) + sumN (l.map g)
  | [] => rfl
  | x :: l => by simp [sumN, sumN_add f g l]; omega
theorem sumN_zero : ∀ l : List α, sumN (l.map fun _ => 0) = 0
  | [] => rfl
  | x :: l => by simp [sumN, sumN_zero l]
theorem sumN_const (c : Nat) : ∀ l : List α, sumN (l.map fun _ => c) = l.length * c
  | [] => by simp [sumN]
  | x :: l => by simp [sumN, sumN_const c l, Nat.succ_mul]; omega
theorem sumN_congr {f g : α → Nat} {l : List α} (h : ∀ x ∈ l, f x = g x) : sumN (l.map f) = sumN (l.map g) := by
  rw [List.map_congr_left h]
/-- how many: a sum of ones -/
theorem cnt_sum (p : α → Bool) : ∀ l : List α, (l.filter p).length = sumN (l.map fun x => if p x = true then 1 else 0)
  | [] => rfl
  | x :: l => by
    rw [List.map_cons, List.filter_cons]
    cases h : p x <;> simp [sumN, cnt_sum p l] <;> omega
theorem sumN_swap (f : α → β → Nat) (m : List β) : ∀ l : List α, sumN (l.map fun x => sumN (m.map fun y => f x y)) = sumN (m.map fun y => sumN (l.map fun x => f x y))
  | [] => by
    show 0 = _
    exact (sumN_zero m).symm
  | x :: l => by
    show sumN (m.map fun y => f x y) + sumN (l.map fun x => sumN (m.map fun y => f x y)) = _
    rw [sumN_swap f m l, ← sumN_add]
    rfl
theorem sumN_split (f : α → Nat) (p : α → Bool) : ∀ l : List α, sumN (l.map f) = sumN ((l.filter p).map f) + sumN ((l.filter fun x => !p x).map f)
  | [] => rfl
  | x :: l => by
    have ih := sumN_split f p l
    rw [List.filter_cons, List.filter_cons]
    cases h : p x <;> simp [sumN] <;> omega
end
theorem sum_int : ∀ l : List Nat, (l.map fun x : Nat => (x : Int)).sum = (sumN l : Int)
  | [] => rfl
  | x :: l => by simp [sumN, sum_int l]

/-! ### orbit counting -/
section
variable {n : Nat} {ts S : List Tn} {α : Type} [DecidableEq α] {dom : α → Prop} {act : Tn → α → α}
/-- as many turns lead x to y as leave y in place -/
theorem stab_eq (G : Grp n ts S) (A : Act n dom act) {x y : α} (hx : dom x) {g : Tn} (hg : g ∈ S) (e : act g x = y) :
    (S.filter fun h => decide (act h x = y)).length = (S.filter fun h => decide (act h y = y)).length := by
  have hy : dom y := by rw [← e]; exact A.dm g x (G.isT hg) hx
  have eb : act (bck g) y = x := by
    rw [← e, ← A.mul g (bck g) x (G.isT hg) (isTn_bck (G.isT hg)) hx, thn_bck (G.isT hg), A.one x hx]
  have fnd : ∀ p : Tn → Bool, (S.filter p).Nodup := fun p => G.nd.sublist List.filter_sublist
  refine Nat.le_antisymm ?_ ?_
  · have q := nd_len ((S.filter fun h => decide (act h x = y)).map fun h => thn (bck g) h) (S.filter fun h => decide (act h y = y)) (nd_map (fnd _) fun a ha b hb e2 =>
      thn_cancel_l (isTn_bck (G.isT hg)) (G.isT (List.mem_filter.mp ha).1) (G.isT (List.mem_filter.mp hb).1) e2) fun z hz => by
      obtain ⟨h, hh, ez⟩ := List.mem_map.mp hz
      obtain ⟨h1, h2⟩ := List.mem_filter.mp hh
      rw [← ez]
      refine List.mem_filter.mpr ⟨G.mul (G.inv hg) h1, decide_eq_true ?_⟩
      rw [A.mul _ h y (isTn_bck (G.isT hg)) (G.isT h1) hy, eb]
      exact of_decide_eq_true h2
    rwa [List.length_map] at q
  · have q := nd_len ((S.filter fun h => decide (act h y = y)).map fun h => thn g h) (S.filter fun h => decide (act h x = y)) (nd_map (fnd _) fun a ha b hb e2 =>
      thn_cancel_l (G.isT hg) (G.isT (List.mem_filter.mp ha).1) (G.isT (List.mem_filter.mp hb).1) e2) fun z hz => by
      obtain ⟨h, hh, ez⟩ := List.mem_map.mp hz
      obtain ⟨h1, h2⟩ := List.mem_filter.mp hh
      rw [← ez]
      refine List.mem_filter.mpr ⟨G.mul hg h1, decide_eq_true ?_⟩
      rw [A.mul g h x (G.isT hg) (G.isT h1) hx, e]
      exact of_decide_eq_true h2
    rwa [List.length_map] at q
/-- the turns parted by where they lead x -/
theorem part_sum (act : Tn → α → α) (x : α) : ∀ (S : List Tn) (Y : List α), Y.Nodup → (∀ h ∈ S, act h x ∈ Y) → sumN (Y.map fun y => (S.filter fun h => decide (act h x = y)).length) = S.length
  | [], Y, _, _ => sumN_zero Y
  | g :: S, Y, hY, hm => by
    have ih := part_sum act x S Y hY fun h hh => hm h (List.mem_cons_of_mem _ hh)
    have e1 : sumN (Y.map fun y => ((g :: S).filter fun h => decide (act h x = y)).length) = sumN (Y.map fun y => (if act g x = y then 1 else 0) + (S.filter fun h => decide (act h x = y)).length) := sumN_congr fun y _ => by
      rw [List.filter_cons]
      by_cases h : act g x = y
      · simp [h]; omega
      · simp [h]
    rw [e1, sumN_add, ih, List.length_cons]
    have one : ∀ (Y : List α), Y.Nodup → act g x ∈ Y → sumN (Y.map fun y => if act g x = y then 1 else 0) = 1 := by
      intro Y
      induction Y with
      | nil => intro _ h; simp at h
      | cons y Y ihY =>
        intro hn hmem
        obtain ⟨n1, n2⟩ := List.nodup_cons.mp hn
        rw [List.map_cons]
        show (if act g x = y then 1 else 0) + sumN (Y.map fun y => if act g x = y then 1 else 0) = 1
        by_cases h : act g x = y
        · have z : sumN (Y.map fun y' => if act g x = y' then 1 else 0) = sumN (Y.map fun _ => 0) := sumN_congr fun y' hy' => by
            rw [if_neg]
            intro e
            exact n1 (by rw [← h, e]; exact hy')
          rw [z, sumN_zero, if_pos h]
        · rw [if_neg h, ihY n2 (by
            rcases List.mem_cons.mp hmem with e | e
            · exact absurd e h
            · exact e)]
    rw [one Y hY (hm g List.mem_cons_self)]
    omega
/-- the sum over whole lots -/
theorem lots_sum (G : Grp n ts S) (A : Act n dom act) {r : α → α → Bool} (hr : ∀ x y, dom x → (r x y = true ↔ ∃ g ∈ S, act g x = y)) :
    ∀ (k : Nat) (Y : List α), Y.length ≤ k → Y.Nodup → (∀ x ∈ Y, dom x) → (∀ x ∈ Y, ∀ g ∈ S, act g x ∈ Y) →
      sumN (Y.map fun y => (S.filter fun h => decide (act h y = y)).length) = S.length * (reps r Y).length
  | _, [], _, _, _, _ => by rw [reps_nil]; simp [sumN]
  | 0, _ :: _, hk, _, _, _ => by simp at hk
  | k + 1, x :: l, hk, hn, hd, hc => by
    obtain ⟨n1, n2⟩ := List.nodup_cons.mp hn
    have dx := hd x List.mem_cons_self
    have rx : r x x = true := (hr x x dx).mpr ⟨_, G.one, A.one x dx⟩
    have hl : (l.filter fun y => !r x y).length ≤ k := Nat.le_trans (List.length_filter_le _ _) (by simpa using hk)
    have e0 : (x :: l).filter (fun y => !r x y) = l.filter fun y => !r x y := by
      rw [List.filter_cons]
      simp [rx]
    rw [sumN_split _ (fun y => r x y) (x :: l), e0]
    have ih := lots_sum G A hr k (l.filter fun y => !r x y) hl (n2.sublist List.filter_sublist) (fun y hy => hd y (List.mem_cons_of_mem _ (List.mem_filter.mp hy).1)) fun y hy g hg => by
      obtain ⟨hy1, hy2⟩ := List.mem_filter.mp hy
      have dy := hd y (List.mem_cons_of_mem _ hy1)
      have m := hc y (List.mem_cons_of_mem _ hy1) g hg
      have nr : r x (act g y) = false := by
        cases q : r x (act g y) with
        | false => rfl
        | true =>
          obtain ⟨h, hh, e⟩ := (hr x _ dx).mp q
          have z : r x y = true := (hr x y dx).mpr ⟨thn h (bck g), G.mul hh (G.inv hg), by
            rw [A.mul h (bck g) x (G.isT hh) (isTn_bck (G.isT hg)) dx, e, ← A.mul g (bck g) y (G.isT hg) (isTn_bck (G.isT hg)) dy, thn_bck (G.isT hg), A.one y dy]⟩
          rw [z] at hy2
          simp at hy2
      rcases List.mem_cons.mp m with e | m
      · rw [e, rx] at nr; cases nr
      · exact List.mem_filter.mpr ⟨m, by simp [nr]⟩
    rw [ih, reps_cons, List.length_cons]
    have e1 : sumN (((x :: l).filter fun y => r x y).map fun y => (S.filter fun h => decide (act h y = y)).length) = sumN (((x :: l).filter fun y => r x y).map fun y => (S.filter fun h => decide (act h x = y)).length) := sumN_congr fun y hy => by
      obtain ⟨g, hg, e⟩ := (hr x y dx).mp (List.mem_filter.mp hy).2
      exact (stab_eq G A dx hg e).symm
    rw [e1, part_sum act x S _ (hn.sublist List.filter_sublist) fun h hh => List.mem_filter.mpr ⟨hc x List.mem_cons_self h hh, (hr x _ dx).mpr ⟨h, hh, rfl⟩⟩, Nat.mul_succ]
    omega
/-- THE LAW: what is left in place by all turns together is as many as turns times lots -/
theorem orbit_count (G : Grp n ts S) (A : Act n dom act) {r : α → α → Bool} (hr : ∀ x y, dom x → (r x y = true ↔ ∃ g ∈ S, act g x = y)) {Y : List α} (hn : Y.Nodup) (hm : ∀ x, x ∈ Y ↔ dom x) :
    sumN (S.map fun g => (Y.filter fun y => decide (act g y = y)).length) = S.length * (reps r Y).length := by
  rw [← lots_sum G A hr Y.length Y (Nat.le_refl _) hn (fun x hx => (hm x).mp hx) fun x hx g hg => (hm _).mpr (A.dm g x (G.isT hg) ((hm x).mp hx))]
  have e1 : ∀ g, (Y.filter fun y => decide (act g y = y)).length = sumN (Y.map fun y => if act g y = y then 1 else 0) := fun g => by
    rw [cnt_sum]
    exact sumN_congr fun y _ => by simp
  have e2 : ∀ y, (S.filter fun h => decide (act h y = y)).length = sumN (S.map fun g => if act g y = y then 1 else 0) := fun y => by
    rw [cnt_sum]
    exact sumN_congr fun g _ => by simp
  simp only [e1, e2]
  exact sumN_swap (fun g y => if act g y = y then 1 else 0) Y S
end
end NB
set_option maxHeartbeats 1000000
/-! data over the abstract heap: what stays (Ex), what a value is (Is), what slots hold (Env), what a reading gives (Ev) -/
namespace NB
open PySem PySem.Spec PyProof.Rows L2

/-! ### what stays -/
abbrev St := L2.St
/-- the law's row: a script, three ints -/
def isRow : HO → Prop
  | .lst [.ref _, .int _, .int _, .int _] => True
  | _ => False
def Fix (o : HO) : Prop := (∀ ps, o ≠ .tbl ps) ∧ ¬ isRow o
def RowAt (K : PySem.W.Frag) (H : Hp) (a s : Addr) (ns : List Int) : Prop :=
  (∃ i z r : Int, H a = some (.lst [.ref s, .int i, .int z, .int r]) ∧ 0 ≤ i) ∧ SqL K H s (ns.map V.int)
/-- the code tables of five defs -/
structure Tbs where
  it : Addr
  wp : Addr
  po : Addr
  pl : Addr
  lk : Addr
structure TbOk (B : Tbs) (H : Hp) : Prop where
  it : GxR.TabG H B.it
  wp : GxR.TabG H B.wp
  po : LamX.TabS H B.po "parts_of.<locals>.<lambda>"
  pl : LamX.TabS H B.pl "pair_lots_of.<locals>.<lambda>"
  lk : LamX.TabS H B.lk "likes_of.<locals>.<lambda>"
/-- they stand apart -/
structure TbNe (B : Tbs) : Prop where
  it : B.it ≠ B.wp ∧ B.it ≠ B.po ∧ B.it ≠ B.pl ∧ B.it ≠ B.lk
  wp : B.wp ≠ B.po ∧ B.wp ≠ B.pl ∧ B.wp ≠ B.lk
  po : B.po ≠ B.pl ∧ B.po ≠ B.lk ∧ B.pl ≠ B.lk
/-- all stays but tables and rows, which stay good ones -/
structure Ex (K : PySem.W.Frag) (B : Tbs) (H H' : Hp) : Prop where
  fx : ∀ b o, H b = some o → Fix o → H' b = some o
  tb : TbOk B H → TbOk B H'
  rw : ∀ a s ns, RowAt K H a s ns → RowAt K H' a s ns
  sm : ∀ b, H' b = none → H b = none
theorem norow_ints (ns : List Int) : ¬ isRow (.lst (ns.map V.int)) := by
  intro h
  match ns, h with
  | [], h => exact h
  | [_], h => exact h
  | [_, _], h => exact h
  | [_, _, _], h => exact h
  | [_, _, _, _], h => exact h
  | _ :: _ :: _ :: _ :: _ :: _, h => exact h
theorem norow_refs {xs : List V} (hx : ∀ x ∈ xs, ∃ a, x = V.ref a) : ¬ isRow (.lst xs) := by
  intro h
  match xs, h with
  | [.ref a, .int i, .int j, .int k], _ =>
    obtain ⟨b, e⟩ := hx (.int i) (by simp)
    cases e
theorem norow_len {xs : List V} (hx : xs.length ≠ 4) : ¬ isRow (.lst xs) := by
  intro h
  match xs, h with
  | [.ref a, .int i, .int j, .int k], _ => exact hx rfl
theorem fix_tup {xs : List V} : Fix (.tup xs) := ⟨fun _ z => (by cases z), fun z => z⟩
theorem fix_lst {xs : List V} (h : ¬ isRow (.lst xs)) : Fix (.lst xs) := ⟨fun _ z => (by cases z), h⟩
theorem fix_frz {o : Obj} {u : HO} : Fix (.frz o u) := ⟨fun _ z => (by cases z), fun z => z⟩
theorem fix_ext {φ : Heap → Prop} : Fix (.ext φ) := ⟨fun _ z => (by cases z), fun z => z⟩
theorem fix_dT {kvs : List (List Key × V)} : Fix (.dT kvs) := ⟨fun _ z => (by cases z), fun z => z⟩
theorem fix_dK {kvs : List (Key × V)} : Fix (.dK kvs) := ⟨fun _ z => (by cases z), fun z => z⟩
section
variable {K : PySem.W.Frag} {B : Tbs} {H H0 H1 H2 : Hp} {p : Addr} {o : HO}
theorem Ex.refl {B : Tbs} (K : PySem.W.Frag) (H : Hp) : Ex K B H H := ⟨fun _ _ h _ => h, fun h => h, fun _ _ _ h => h, fun _ h => h⟩
theorem Ex.trans (a : Ex K B H H1) (b : Ex K B H1 H2) : Ex K B H H2 :=
  ⟨fun c u h f => b.fx c u (a.fx c u h f) f, fun h => b.tb (a.tb h), fun c s ns h => b.rw c s ns (a.rw c s ns h), fun c h => a.sm c (b.sm c h)⟩
theorem seq_keep {a : Addr} {xs : List V} (h : SqL K H a xs) (hr : ¬ isRow (.lst xs)) (k : ∀ b o, H b = some o → Fix o → H1 b = some o) : SqL K H1 a xs := by
  rcases h with (h | ⟨ob, h⟩) | h
  · exact .inl (.inl (k a _ h (fix_lst hr)))
  · exact .inl (.inr ⟨ob, k a _ h fix_frz⟩)
  · exact .inr h
theorem Ex.seq {a : Addr} {xs : List V} (e : Ex K B H H1) (h : SqL K H a xs) (hr : ¬ isRow (.lst xs)) : SqL K H1 a xs := seq_keep h hr e.fx
theorem Ex.tup {a : Addr} {xs : List V} (e : Ex K B H H1) (h : H a = some (.tup xs)) : H1 a = some (.tup xs) := e.fx a _ h fix_tup
theorem Ex.rd {a : Addr} {xs : List V} (e : Ex K B H H1) (h : Rd H a (.tup xs)) : Rd H1 a (.tup xs) := h.elim (fun h => .inl (e.fx a _ h fix_tup)) fun ⟨o, h⟩ => .inr ⟨o, e.fx a _ h fix_frz⟩
theorem Ex.lst {a : Addr} {xs : List V} (e : Ex K B H H1) (h : H a = some (.lst xs)) (hr : ¬ isRow (.lst xs)) : H1 a = some (.lst xs) := e.fx a _ h (fix_lst hr)
/-- what the local objects of a body are -/
def Plain : Option HO → Prop
  | none => True
  | some (.lst _) => True
  | some (.dK _) => True
  | some (.ext φ) => ∀ c q, HO.ext φ ≠ LamX.CodeO c q
  | _ => False
theorem TbOk.upd {p : Addr} {o : HO} (h : TbOk B H) (hp : Plain (H p)) : TbOk B (L2.upd H p o) := by
  have nt : ∀ P ps, H P = some (.tbl ps) → P ≠ p := fun P ps h z => by
    rw [← z, h] at hp
    exact hp
  have nx : ∀ c q, H c = some (LamX.CodeO c q) → c ≠ p := fun c q h z => by
    rw [← z, h] at hp
    exact hp c q rfl
  have g1 : ∀ P, GxR.TabG H P → GxR.TabG (L2.upd H p o) P := fun P ⟨ps, h1, h2⟩ => ⟨ps, by rw [upd_ne (nt P ps h1)]; exact h1, h2⟩
  have g2 : ∀ P q, LamX.TabS H P q → LamX.TabS (L2.upd H p o) P q := fun P q ⟨ps, h1, h2, h3⟩ => by
    refine ⟨ps, by rw [upd_ne (nt P ps h1)]; exact h1, h2, fun pos cv hc => ?_⟩
    obtain ⟨c, e1, e2⟩ := h3 pos cv hc
    exact ⟨c, e1, by rw [upd_ne (nx c _ e2)]; exact e2⟩
  exact ⟨g1 _ h.it, g1 _ h.wp, g2 _ _ h.po, g2 _ _ h.pl, g2 _ _ h.lk⟩
/-- an object that H0 does not know is made, or changed -/
theorem Ex.mut (e : Ex K B H0 H) (h0 : H0 p = none) (hp : Plain (H p)) : Ex K B H0 (upd H p o) := by
  have ne : ∀ b u, H0 b = some u → b ≠ p := fun b u h => ne_of_none h h0
  refine ⟨fun b u h f => by rw [upd_ne (ne b u h)]; exact e.fx b u h f, fun h => (e.tb h).upd hp, fun a s ns h => ?_, fun b h => ?_⟩
  · obtain ⟨⟨i, z, r, g, hi⟩, _⟩ := e.rw a s ns h
    obtain ⟨⟨i0, z0, r0, g0, _⟩, hS⟩ := h
    refine ⟨⟨i, z, r, by rw [upd_ne (ne a _ g0)]; exact g, hi⟩, ?_⟩
    refine seq_keep hS (norow_ints ns) fun b u h f => ?_
    rw [upd_ne (ne b u h)]
    exact e.fx b u h f
  · by_cases hb : b = p
    · rw [hb]; exact h0
    · rw [upd_ne hb] at h
      exact e.sm b h
theorem Ex.new (h : H p = none) : Ex K B H (upd H p o) := (Ex.refl K H).mut h (by rw [h]; trivial)
end

/-! ### what a value is -/
mutual
inductive Is (H : Hp) : V → PyData → Prop
  | non : Is H .non .none
  | bl (b : Bool) : Is H (.bl b) (.bool b)
  | int (i : Int) : Is H (.int i) (.int i)
  | tup {a : Addr} {vs : List V} {ds : List PyData} : Rd H a (.tup vs) → IsAll H vs ds → Is H (.ref a) (.tuple ds)
  | lst {a : Addr} {vs : List V} {ds : List PyData} : H a = some (.lst vs) → ¬ isRow (.lst vs) → IsAll H vs ds → Is H (.ref a) (.list ds)
inductive IsAll (H : Hp) : List V → List PyData → Prop
  | nil : IsAll H [] []
  | cons {v : V} {vs : List V} {d : PyData} {ds : List PyData} : Is H v d → IsAll H vs ds → IsAll H (v :: vs) (d :: ds)
end
section
variable {K : PySem.W.Frag} {B : Tbs} {H H1 : Hp}
mutual
theorem is_keep (kt : ∀ a vs, Rd H a (.tup vs) → Rd H1 a (.tup vs)) (kl : ∀ a vs, H a = some (.lst vs) → ¬ isRow (.lst vs) → H1 a = some (.lst vs)) : ∀ (d : PyData) (v : V), Is H v d → Is H1 v d
  | .none, _, h => by cases h; exact .non
  | .bool b, _, h => by cases h; exact .bl b
  | .int i, _, h => by cases h; exact .int i
  | .str _, _, h => by cases h
  | .dict _, _, h => by cases h
  | .tuple ds, _, h => by
    cases h with
    | tup h1 h2 => exact .tup (kt _ _ h1) (isAll_keep kt kl ds _ h2)
  | .list ds, _, h => by
    cases h with
    | lst h1 hr h2 => exact .lst (kl _ _ h1 hr) hr (isAll_keep kt kl ds _ h2)
theorem isAll_keep (kt : ∀ a vs, Rd H a (.tup vs) → Rd H1 a (.tup vs)) (kl : ∀ a vs, H a = some (.lst vs) → ¬ isRow (.lst vs) → H1 a = some (.lst vs)) : ∀ (ds : List PyData) (vs : List V), IsAll H vs ds → IsAll H1 vs ds
  | [], _, h => by cases h; exact .nil
  | d :: ds, _, h => by
    cases h with
    | cons h1 h2 => exact .cons (is_keep kt kl d _ h1) (isAll_keep kt kl ds _ h2)
end
theorem Is.mono {d : PyData} {v : V} (e : Ex K B H H1) (h : Is H v d) : Is H1 v d := is_keep (fun a vs h => e.rd h) (fun a vs h hr => e.lst h hr) d v h
theorem IsAll.mono {ds : List PyData} {vs : List V} (e : Ex K B H H1) (h : IsAll H vs ds) : IsAll H1 vs ds := isAll_keep (fun a vs h => e.rd h) (fun a vs h hr => e.lst h hr) ds vs h
/-! data without lists do not feel a list's change -/
mutual
def lf : PyData → Bool
  | .list _ => false
  | .tuple ds => lfAll ds
  | _ => true
def lfAll : List PyData → Bool
  | [] => true
  | d :: ds => lf d && lfAll ds
end
mutual
theorem is_lf (kt : ∀ a vs, Rd H a (.tup vs) → Rd H1 a (.tup vs)) : ∀ (d : PyData) (v : V), lf d = true → Is H v d → Is H1 v d
  | .none, _, _, h => by cases h; exact .non
  | .bool b, _, _, h => by cases h; exact .bl b
  | .int i, _, _, h => by cases h; exact .int i
  | .str _, _, _, h => by cases h
  | .dict _, _, _, h => by cases h
  | .tuple ds, _, l, h => by
    cases h with
    | tup h1 h2 => exact .tup (kt _ _ h1) (isAll_lf kt ds _ (by simpa [lf] using l) h2)
  | .list ds, _, l, h => by simp [lf] at l
theorem isAll_lf (kt : ∀ a vs, Rd H a (.tup vs) → Rd H1 a (.tup vs)) : ∀ (ds : List PyData) (vs : List V), lfAll ds = true → IsAll H vs ds → IsAll H1 vs ds
  | [], _, _, h => by cases h; exact .nil
  | d :: ds, _, l, h => by
    have l2 : lf d = true ∧ lfAll ds = true := by simpa [lfAll] using l
    cases h with
    | cons h1 h2 => exact .cons (is_lf kt d _ l2.1 h1) (isAll_lf kt ds _ l2.2 h2)
end
theorem nt_upd {p : Addr} {o : HO} (hp : ∀ xs, ¬ Rd H p (.tup xs)) : ∀ a vs, Rd H a (.tup vs) → Rd (upd H p o) a (.tup vs) := fun a vs h => by
  have ne : a ≠ p := fun z => hp vs (by rw [← z]; exact h)
  rcases h with h | ⟨ob, h⟩
  · exact .inl (by rw [upd_ne ne]; exact h)
  · exact .inr ⟨ob, by rw [upd_ne ne]; exact h⟩
theorem Is.upd {p : Addr} {o : HO} {d : PyData} {v : V} (h : Is H v d) (l : lf d = true) (hp : ∀ xs, ¬ Rd H p (.tup xs)) : Is (L2.upd H p o) v d := is_lf (nt_upd hp) d v l h
theorem IsAll.upd {p : Addr} {o : HO} {ds : List PyData} {vs : List V} (h : IsAll H vs ds) (l : lfAll ds = true) (hp : ∀ xs, ¬ Rd H p (.tup xs)) : IsAll (L2.upd H p o) vs ds := isAll_lf (nt_upd hp) ds vs l h
theorem plain_nt {p : Addr} (h : Plain (H p)) : ∀ xs, ¬ Rd H p (.tup xs) := fun xs z => by
  rcases z with z | ⟨o, z⟩ <;> rw [z] at h <;> exact h
mutual
theorem is_dp : ∀ (d : PyData) (v : V), Is H v d → Dp K H v d
  | .none, _, h => by cases h; exact .non
  | .bool b, _, h => by cases h; exact .bl b
  | .int i, _, h => by cases h; exact .int i
  | .str _, _, h => by cases h
  | .dict _, _, h => by cases h
  | .tuple ds, _, h => by
    cases h with
    | tup h1 h2 => exact .tup (.inl h1) (isAll_dp ds _ h2)
  | .list ds, _, h => by
    cases h with
    | lst h1 hr h2 => exact .lst (.inl (.inl h1)) (isAll_dp ds _ h2)
theorem isAll_dp : ∀ (ds : List PyData) (vs : List V), IsAll H vs ds → DpAll K H vs ds
  | [], _, h => by cases h; exact .nil
  | d :: ds, _, h => by
    cases h with
    | cons h1 h2 => exact .cons (is_dp d _ h1) (isAll_dp ds _ h2)
end
theorem IsAll.len {ds : List PyData} {vs : List V} (h : IsAll H vs ds) : vs.length = ds.length := by
  induction ds generalizing vs with
  | nil => cases h; rfl
  | cons d ds ih => cases h with | cons h1 h2 => simp [ih h2]
theorem IsAll.at {ds : List PyData} {vs : List V} (h : IsAll H vs ds) {i : Nat} {d : PyData} (hd : ds[i]? = some d) : ∃ v, vs[i]? = some v ∧ Is H v d := by
  induction ds generalizing vs i with
  | nil => simp at hd
  | cons e ds ih =>
    cases h with
    | cons h1 h2 =>
      cases i with
      | zero => simp at hd; subst hd; exact ⟨_, rfl, h1⟩
      | succ i => exact ih h2 (by simpa using hd)
theorem IsAll.at' {ds : List PyData} {vs : List V} (h : IsAll H vs ds) {i : Nat} {v : V} (hv : vs[i]? = some v) : ∃ d, ds[i]? = some d ∧ Is H v d := by
  induction ds generalizing vs i with
  | nil => cases h; simp at hv
  | cons e ds ih =>
    cases h with
    | cons h1 h2 =>
      cases i with
      | zero => simp at hv; subst hv; exact ⟨_, rfl, h1⟩
      | succ i => exact ih h2 (by simpa using hv)
theorem IsAll.app {ds es : List PyData} {vs us : List V} (h : IsAll H vs ds) (h2 : IsAll H us es) : IsAll H (vs ++ us) (ds ++ es) := by
  induction ds generalizing vs with
  | nil => cases h; exact h2
  | cons e ds ih => cases h with | cons a b => exact .cons a (ih b)
theorem IsAll.one {d : PyData} {v : V} (h : Is H v d) : IsAll H [v] [d] := .cons h .nil
/-! ### numbers and tuples of numbers -/
abbrev nD (n : Nat) : PyData := .int (n : Int)
def tD (t : List Nat) : PyData := .tuple (t.map nD)
abbrev nV (n : Nat) : V := .int (n : Int)
theorem isAll_nat : ∀ t : List Nat, IsAll H (t.map nV) (t.map nD)
  | [] => .nil
  | n :: t => .cons (.int _) (isAll_nat t)
theorem isAll_nat_eq : ∀ {t : List Nat} {vs : List V}, IsAll H vs (t.map nD) → vs = t.map nV
  | [], _, h => by cases h; rfl
  | n :: t, _, h => by
    cases h with
    | cons h1 h2 =>
      cases h1
      rw [isAll_nat_eq h2]
      rfl
theorem is_tD {v : V} {t : List Nat} (h : Is H v (tD t)) : ∃ a, v = .ref a ∧ Rd H a (.tup (t.map nV)) := by
  unfold tD at h
  cases h with
  | tup h1 h2 => exact ⟨_, rfl, by rw [isAll_nat_eq h2] at h1; exact h1⟩
theorem tD_is {a : Addr} {t : List Nat} (h : Rd H a (.tup (t.map nV))) : Is H (.ref a) (tD t) := .tup h (isAll_nat t)
theorem lf_nats : ∀ t : List Nat, lfAll (t.map nD) = true
  | [] => rfl
  | n :: t => by simp [lfAll, lf, lf_nats t]
theorem lf_tD (t : List Nat) : lf (tD t) = true := by
  show lfAll (t.map nD) = true
  exact lf_nats t
theorem lf_tDs : ∀ ts : List (List Nat), lfAll (ts.map tD) = true
  | [] => rfl
  | t :: ts => by simp [lfAll, lf_tD, lf_tDs ts]
/-- a house -/
def hD (n : Nat) (ts : List (List Nat)) : PyData := .tuple [nD n, .tuple (ts.map tD)]
theorem lf_hD (n : Nat) (ts : List (List Nat)) : lf (hD n ts) = true := by
  show lfAll [nD n, .tuple (ts.map tD)] = true
  simp [lfAll, lf, lf_tDs]
end

/-! ### what slots hold -/
inductive Sl where
  | d (x : PyData)
  | r (p : Addr)
def SlOk (H : Hp) : Sl → V → Prop
  | .d x, v => Is H v x
  | .r p, v => v = .ref p
def lfS : Sl → Bool
  | .d x => lf x
  | .r _ => true
def lfO : Option Sl → Bool
  | some s => lfS s
  | none => true
abbrev Ga := List (Option Sl)
structure Env (B : Tbs) (σ : St) (H : Hp) (Γ : Ga) : Prop where
  tb : TbOk B H
  len : σ.length = Γ.length
  at_ : ∀ (i : Nat) (g : Sl), Γ[i]? = some (some g) → ∃ v, σ[i]? = some (some v) ∧ SlOk H g v
section
variable {K : PySem.W.Frag} {B : Tbs} {σ : St} {H H1 : Hp} {Γ : Ga}
theorem SlOk.mono {s : Sl} {v : V} (e : Ex K B H H1) (h : SlOk H s v) : SlOk H1 s v := by
  cases s with
  | d x => exact Is.mono (show Ex K B H H1 from e) (show Is H v x from h)
  | r p => exact h
theorem TbOk.mono (e : Ex K B H H1) (h : TbOk B H) : TbOk B H1 := e.tb h
theorem Env.mono (e : Ex K B H H1) (h : Env B σ H Γ) : Env B σ H1 Γ := ⟨h.tb.mono e, h.len, fun i g hg => by
  obtain ⟨v, h1, h2⟩ := h.at_ i g hg
  exact ⟨v, h1, h2.mono e⟩⟩
/-- a local object is changed: what holds no list does not feel it -/
theorem Env.upd {p : Addr} {o : HO} (h : Env B σ H Γ) (hp : Plain (H p)) (hl : Γ.all lfO = true) : Env B σ (L2.upd H p o) Γ := ⟨h.tb.upd hp, h.len, fun i g hg => by
  obtain ⟨v, h1, h2⟩ := h.at_ i g hg
  refine ⟨v, h1, ?_⟩
  have q : lfO (some g) = true := List.all_eq_true.mp hl _ (List.mem_of_getElem? hg)
  cases g with
  | d x => exact Is.upd (show Is H v x from h2) q (plain_nt hp)
  | r p => exact h2⟩
theorem Env.set {i : Nat} {s : Sl} {v : V} (h : Env B σ H Γ) (hv : SlOk H s v) : Env B (σ.set i (some v)) H (Γ.set i (some s)) := ⟨h.tb, by rw [List.length_set, List.length_set, h.len], fun j g hg => by
  by_cases e : j = i
  · subst e
    have hj : j < Γ.length := by
      have q := (List.getElem?_eq_some_iff.mp hg).1
      rwa [List.length_set] at q
    rw [List.getElem?_set_self (by rw [h.len]; exact hj)]
    rw [List.getElem?_set_self hj] at hg
    cases hg
    exact ⟨v, rfl, hv⟩
  · rw [List.getElem?_set_ne (Ne.symm e)] at hg ⊢
    exact h.at_ j g hg⟩
/-- less is known -/
theorem Env.weak {Γ' : Ga} (h : Env B σ H Γ) (hl : Γ'.length = Γ.length) (w : ∀ (i : Nat) (g : Sl), Γ'[i]? = some (some g) → Γ[i]? = some (some g)) : Env B σ H Γ' := ⟨h.tb, h.len.trans hl.symm, fun i g hg => h.at_ i g (w i g hg)⟩
end
end NB
set_option maxHeartbeats 1000000
/-! what a reading gives: Ev and its kin, statements, loops, comprehensions -/
namespace NB
open PySem PySem.Spec PyProof.Rows L2

inductive SlsOk (H : Hp) : List Sl → List V → Prop
  | nil : SlsOk H [] []
  | cons {s : Sl} {ss : List Sl} {v : V} {vs : List V} : SlOk H s v → SlsOk H ss vs → SlsOk H (s :: ss) (v :: vs)
theorem SlsOk.mono {K : PySem.W.Frag} {H H1 : Hp} {ss : List Sl} {vs : List V} (e : Ex K B H H1) (h : SlsOk H ss vs) : SlsOk H1 ss vs := by
  induction ss generalizing vs with
  | nil => cases h; exact .nil
  | cons s ss ih => cases h with | cons a b => exact .cons (a.mono e) (ih b)
theorem SlsOk.data {H : Hp} {ds : List PyData} {vs : List V} (h : SlsOk H (ds.map .d) vs) : IsAll H vs ds := by
  induction ds generalizing vs with
  | nil => cases h; exact .nil
  | cons s ss ih => cases h with | cons a b => exact .cons a (ih b)

/-- te gives s, leaving what is known -/
def Ev (K : PySem.W.Frag) (B : Tbs) (te : TE) (Γ : Ga) (H : Hp) (s : Sl) : Prop :=
  ∀ σ H1, Env B σ H1 Γ → Ex K B H H1 → ∀ Q : VK, (∀ v H2, Ex K B H1 H2 → SlOk H2 s v → Q v H2) → te σ H1 Q
/-- .. a new list -/
def EvN (K : PySem.W.Frag) (B : Tbs) (te : TE) (Γ : Ga) (H : Hp) (ds : List PyData) : Prop :=
  ∀ σ H1, Env B σ H1 Γ → Ex K B H H1 → ∀ Q : VK, (∀ p vs H2, H1 p = none → Ex K B H1 H2 → H2 p = some (.lst vs) → IsAll H2 vs ds → Q (.ref p) H2) → te σ H1 Q
def EvT (K : PySem.W.Frag) (B : Tbs) (tt : TT) (Γ : Ga) (H : Hp) (b : Bool) : Prop :=
  ∀ σ H1, Env B σ H1 Γ → Ex K B H H1 → ∀ Q : Bool → Hp → Prop, (∀ H2, Ex K B H1 H2 → Q b H2) → tt σ H1 Q
def EvA (K : PySem.W.Frag) (B : Tbs) (ta : TA) (Γ : Ga) (H : Hp) (ss : List Sl) : Prop :=
  ∀ σ H1, Env B σ H1 Γ → Ex K B H H1 → ∀ Q : List V → Hp → Prop, (∀ vs H2, Ex K B H1 H2 → SlsOk H2 ss vs → Q vs H2) → ta σ H1 Q
/-- operations on values -/
def Op2 (K : PySem.W.Frag) (B : Tbs) (r : R2) (s1 s2 : Sl) (H : Hp) (s : Sl) : Prop :=
  ∀ x y H1, TbOk B H1 → Ex K B H H1 → SlOk H1 s1 x → SlOk H1 s2 y → ∀ Q : VK, (∀ v H2, Ex K B H1 H2 → SlOk H2 s v → Q v H2) → r x y H1 Q
def Op2N (K : PySem.W.Frag) (B : Tbs) (r : R2) (s1 s2 : Sl) (H : Hp) (ds : List PyData) : Prop :=
  ∀ x y H1, TbOk B H1 → Ex K B H H1 → SlOk H1 s1 x → SlOk H1 s2 y → ∀ Q : VK, (∀ p vs H2, H1 p = none → Ex K B H1 H2 → H2 p = some (.lst vs) → IsAll H2 vs ds → Q (.ref p) H2) → r x y H1 Q
def OpL (K : PySem.W.Frag) (B : Tbs) (r : List V → Hp → VK → Prop) (ss : List Sl) (H : Hp) (s : Sl) : Prop :=
  ∀ vs H1, TbOk B H1 → Ex K B H H1 → SlsOk H1 ss vs → ∀ Q : VK, (∀ v H2, Ex K B H1 H2 → SlOk H2 s v → Q v H2) → r vs H1 Q
def OpLN (K : PySem.W.Frag) (B : Tbs) (r : List V → Hp → VK → Prop) (ss : List Sl) (H : Hp) (ds : List PyData) : Prop :=
  ∀ vs H1, TbOk B H1 → Ex K B H H1 → SlsOk H1 ss vs → ∀ Q : VK, (∀ p us H2, H1 p = none → Ex K B H1 H2 → H2 p = some (.lst us) → IsAll H2 us ds → Q (.ref p) H2) → r vs H1 Q

section
variable {K : PySem.W.Frag} {B : Tbs} {Γ : Ga} {H H' : Hp} {ta tb te : TE} {tt tu : TT} {s s1 s2 s3 : Sl} {r : R2} {ds es : List PyData}
theorem Ev.mono (e : Ex K B H H') (h : Ev K B te Γ H s) : Ev K B te Γ H' s := fun σ H1 E a Q q => h σ H1 E (e.trans a) Q q
theorem EvN.mono (e : Ex K B H H') (h : EvN K B te Γ H ds) : EvN K B te Γ H' ds := fun σ H1 E a Q q => h σ H1 E (e.trans a) Q q
theorem EvT.mono {b : Bool} (e : Ex K B H H') (h : EvT K B tt Γ H b) : EvT K B tt Γ H' b := fun σ H1 E a Q q => h σ H1 E (e.trans a) Q q
theorem ev_var {i : Nat} (h : Γ[i]? = some (some s)) : Ev K B (tVar i) Γ H s := fun σ H1 E e Q q => by
  obtain ⟨v, h1, h2⟩ := E.at_ i s h
  exact ⟨v, h1, q v H1 (Ex.refl K H1) h2⟩
theorem ev_c {v : V} (hs : ∀ H, SlOk H s v) : Ev K B (tC v) Γ H s := fun σ H1 E e Q q => q v H1 (Ex.refl K H1) (hs H1)
theorem ev_int {i : Int} : Ev K B (tC (.int i)) Γ H (.d (.int i)) := ev_c fun _ => .int i
theorem ev_bl {b : Bool} : Ev K B (tC (.bl b)) Γ H (.d (.bool b)) := ev_c fun _ => .bl b
theorem ev_non : Ev K B (tC .non) Γ H (.d .none) := ev_c fun _ => .non
theorem ev_op (ha : Ev K B ta Γ H s1) (hb : Ev K B tb Γ H s2) (hr : Op2 K B r s1 s2 H s) : Ev K B (tOp r ta tb) Γ H s := fun σ H1 E e Q q =>
  ha σ H1 E e _ fun x H2 e2 x2 => hb σ H2 (E.mono e2) (e.trans e2) _ fun y H3 e3 y3 =>
    hr x y H3 ((E.mono e2).mono e3).tb ((e.trans e2).trans e3) (x2.mono e3) y3 Q fun v H4 e4 v4 => q v H4 ((e2.trans e3).trans e4) v4
theorem ev_opR (ha : Ev K B ta Γ H s1) (hb : Ev K B tb Γ H s2) (hr : Op2N K B r s1 s2 H ds) : EvN K B (tOp r ta tb) Γ H ds := fun σ H1 E e Q q =>
  ha σ H1 E e _ fun x H2 e2 x2 => hb σ H2 (E.mono e2) (e.trans e2) _ fun y H3 e3 y3 =>
    hr x y H3 ((E.mono e2).mono e3).tb ((e.trans e2).trans e3) (x2.mono e3) y3 Q fun p vs H4 hp e4 h4 v4 => q p vs H4 ((e2.trans e3).sm p hp) ((e2.trans e3).trans e4) h4 v4
/-- the second operand a new list -/
theorem ev_opN (ha : Ev K B ta Γ H s1) (hb : EvN K B tb Γ H ds) (hr : ∀ p vs H1, Ex K B H H1 → H1 p = some (.lst vs) → IsAll H1 vs ds → Op2 K B r s1 (.r p) H1 s) : Ev K B (tOp r ta tb) Γ H s := fun σ H1 E e Q q =>
  ha σ H1 E e _ fun x H2 e2 x2 => hb σ H2 (E.mono e2) (e.trans e2) _ fun p vs H3 hp e3 h3 i3 =>
    hr p vs H3 ((e.trans e2).trans e3) h3 i3 x _ H3 ((E.mono e2).mono e3).tb (Ex.refl K H3) (x2.mono e3) rfl Q fun v H4 e4 v4 => q v H4 ((e2.trans e3).trans e4) v4
/-- the first one -/
theorem ev_opN1 (ha : EvN K B ta Γ H ds) (hb : ∀ p vs H1, Ex K B H H1 → H1 p = some (.lst vs) → IsAll H1 vs ds → Ev K B tb Γ H1 s2) (hr : ∀ p vs H1, Ex K B H H1 → H1 p = some (.lst vs) → IsAll H1 vs ds → Op2 K B r (.r p) s2 H1 s) : Ev K B (tOp r ta tb) Γ H s := fun σ H1 E e Q q =>
  ha σ H1 E e _ fun p vs H2 hp e2 h2 i2 => hb p vs H2 (e.trans e2) h2 i2 σ H2 (E.mono e2) (Ex.refl K H2) _ fun y H3 e3 y3 =>
    hr p vs H2 (e.trans e2) h2 i2 _ y H3 ((E.mono e2).mono e3).tb e3 rfl y3 Q fun v H4 e4 v4 => q v H4 ((e2.trans e3).trans e4) v4
theorem ev_un {ru : V → Hp → VK → Prop} (ha : Ev K B ta Γ H s1) (hr : ∀ x H1, Ex K B H H1 → SlOk H1 s1 x → ∀ Q : VK, (∀ v H2, Ex K B H1 H2 → SlOk H2 s v → Q v H2) → ru x H1 Q) : Ev K B (tUn ru ta) Γ H s := fun σ H1 E e Q q =>
  ha σ H1 E e _ fun x H2 e2 x2 => hr x H2 (e.trans e2) x2 Q fun v H3 e3 v3 => q v H3 (e2.trans e3) v3
/-! ### arguments, calls -/
theorem ea_nil : EvA K B tNil Γ H [] := fun σ H1 E e Q q => q [] H1 (Ex.refl K H1) .nil
theorem ea_cons {tr : TA} {ss : List Sl} (h : Ev K B te Γ H s) (hr : EvA K B tr Γ H ss) : EvA K B (tCons te tr) Γ H (s :: ss) := fun σ H1 E e Q q =>
  h σ H1 E e _ fun x H2 e2 x2 => hr σ H2 (E.mono e2) (e.trans e2) _ fun vs H3 e3 v3 => q (x :: vs) H3 (e2.trans e3) (.cons (x2.mono e3) v3)
theorem ea1 (h : Ev K B te Γ H s) : EvA K B (tCons te tNil) Γ H [s] := ea_cons h ea_nil
theorem ea2 {tf : TE} (h : Ev K B te Γ H s) (h2 : Ev K B tf Γ H s2) : EvA K B (tCons te (tCons tf tNil)) Γ H [s, s2] := ea_cons h (ea1 h2)
theorem ea3 {tf tg : TE} (h : Ev K B te Γ H s) (h2 : Ev K B tf Γ H s2) (h3 : Ev K B tg Γ H s3) : EvA K B (tCons te (tCons tf (tCons tg tNil))) Γ H [s, s2, s3] := ea_cons h (ea2 h2 h3)
theorem ev_cb {rl : List V → Hp → VK → Prop} {ta : TA} {ss : List Sl} (ha : EvA K B ta Γ H ss) (hr : OpL K B rl ss H s) : Ev K B (tCB rl ta) Γ H s := fun σ H1 E e Q q =>
  ha σ H1 E e _ fun vs H2 e2 v2 => hr vs H2 (E.mono e2).tb (e.trans e2) v2 Q fun v H3 e3 v3 => q v H3 (e2.trans e3) v3
theorem en_cb {rl : List V → Hp → VK → Prop} {ta : TA} {ss : List Sl} (ha : EvA K B ta Γ H ss) (hr : OpLN K B rl ss H ds) : EvN K B (tCB rl ta) Γ H ds := fun σ H1 E e Q q =>
  ha σ H1 E e _ fun vs H2 e2 v2 => hr vs H2 (E.mono e2).tb (e.trans e2) v2 Q fun p us H3 hp e3 h3 v3 => q p us H3 (e2.sm p hp) (e2.trans e3) h3 v3
/-- one argument, a new list -/
theorem ev_cbN {rl : List V → Hp → VK → Prop} (ha : EvN K B te Γ H ds) (hr : ∀ p vs H1, Ex K B H H1 → H1 p = some (.lst vs) → IsAll H1 vs ds → OpL K B rl [.r p] H1 s) : Ev K B (tCB rl (tCons te tNil)) Γ H s := fun σ H1 E e Q q =>
  ha σ H1 E e _ fun p vs H2 hp e2 h2 i2 => hr p vs H2 (e.trans e2) h2 i2 _ H2 (E.mono e2).tb (Ex.refl K H2) (.cons rfl .nil) Q fun v H3 e3 v3 => q v H3 (e2.trans e3) v3
theorem en_cbN {rl : List V → Hp → VK → Prop} (ha : EvN K B te Γ H ds) (hr : ∀ p vs H1, Ex K B H H1 → H1 p = some (.lst vs) → IsAll H1 vs ds → OpLN K B rl [.r p] H1 es) : EvN K B (tCB rl (tCons te tNil)) Γ H es := fun σ H1 E e Q q =>
  ha σ H1 E e _ fun p vs H2 hp e2 h2 i2 => hr p vs H2 (e.trans e2) h2 i2 _ H2 (E.mono e2).tb (Ex.refl K H2) (.cons rfl .nil) Q fun p' us H3 hp' e3 h3 v3 => q p' us H3 (e2.sm p' hp') (e2.trans e3) h3 v3
/-- a def's promise: a value | a new list -/
def spD (K : PySem.W.Frag) (B : Tbs) (C : List PyData → PyData → Prop) : Sp := fun vs H Q _ => TbOk B H ∧ ∃ ds d, IsAll H vs ds ∧ C ds d ∧ ∀ v H', Ex K B H H' → Is H' v d → Q v H'
def spN (K : PySem.W.Frag) (B : Tbs) (C : List PyData → List PyData → Prop) : Sp := fun vs H Q _ => TbOk B H ∧ ∃ ds es, IsAll H vs ds ∧ C ds es ∧ ∀ p us H', H p = none → Ex K B H H' → H' p = some (.lst us) → IsAll H' us es → Q (.ref p) H'
theorem ev_call {C : List PyData → PyData → Prop} {E0' : XK} {ta : TA} {d : PyData} (ha : EvA K B ta Γ H (ds.map .d)) (hc : C ds d) : Ev K B (tCall (spD K B C) [] E0' ta) Γ H (.d d) := fun σ H1 E e Q q =>
  ha σ H1 E e _ fun vs H2 e2 v2 => by
    rw [List.append_nil]
    exact ⟨(E.mono e2).tb, ds, d, v2.data, hc, fun v H3 e3 v3 => q v H3 (e2.trans e3) v3⟩
theorem en_call {C : List PyData → List PyData → Prop} {E0' : XK} {ta : TA} (ha : EvA K B ta Γ H (ds.map .d)) (hc : C ds es) : EvN K B (tCall (spN K B C) [] E0' ta) Γ H es := fun σ H1 E e Q q =>
  ha σ H1 E e _ fun vs H2 e2 v2 => by
    rw [List.append_nil]
    exact ⟨(E.mono e2).tb, ds, es, v2.data, hc, fun p us H3 hp e3 h3 v3 => q p us H3 (e2.sm p hp) (e2.trans e3) h3 v3⟩
/-! ### displays -/
theorem isAll_of {ss : List PyData} {vs : List V} {H : Hp} (h : SlsOk H (ss.map .d) vs) : IsAll H vs ss := h.data
theorem lenline {n : Nat} (h : n ≤ 1000) : n ≤ sizeLine := Nat.le_trans h (by decide)
theorem ltline {n : Nat} (h : n < 1000) : n < sizeLine := Nat.lt_of_lt_of_le h (by decide)
theorem ev_tup {ta : TA} (ha : EvA K B ta Γ H (ds.map .d)) (hl : ds.length ≤ 1000) : Ev K B (tTup ta) Γ H (.d (.tuple ds)) := fun σ H1 E e Q q =>
  ha σ H1 E e _ fun vs H2 e2 v2 => ⟨lenline (by rw [v2.data.len]; exact hl), fun p hp => q _ _ (e2.trans (Ex.new hp)) (.tup (.inl upd_same) (v2.data.mono (Ex.new (K := K) (B := B) hp)))⟩
theorem en_lst {ta : TA} (ha : EvA K B ta Γ H (ds.map .d)) (hl : ds.length ≤ 1000) : EvN K B (tLst ta) Γ H ds := fun σ H1 E e Q q =>
  ha σ H1 E e _ fun vs H2 e2 v2 => ⟨lenline (by rw [v2.data.len]; exact hl), fun p hp => q p vs _ (e2.sm p hp) (e2.trans (Ex.new hp)) upd_same (v2.data.mono (Ex.new (K := K) (B := B) hp))⟩
/-! a new list as a value -/
def rowD : List PyData → Bool
  | [.tuple _, .int _, .int _, .int _] => true
  | [.list _, .int _, .int _, .int _] => true
  | _ => false
theorem norow_of {vs : List V} (h : IsAll H vs ds) (hr : rowD ds = false) : ¬ isRow (.lst vs) := fun z => by
  match vs, z with
  | [.ref a, .int i, .int j, .int k], _ =>
    cases h with
    | cons h1 h2 =>
      cases h2 with
      | cons h3 h4 =>
        cases h4 with
        | cons h5 h6 =>
          cases h6 with
          | cons h7 h8 =>
            cases h8
            cases h3
            cases h5
            cases h7
            cases h1 <;> simp [rowD] at hr
theorem EvN.ev (h : EvN K B te Γ H ds) (hr : rowD ds = false) : Ev K B te Γ H (.d (.list ds)) := fun σ H1 E e Q q =>
  h σ H1 E e Q fun p vs H2 hp e2 h2 i2 => q _ H2 e2 (.lst h2 (norow_of i2 hr) i2)
/-! ### tests -/
theorem et_test {b : Bool} (h : Ev K B te Γ H (.d (.bool b))) : EvT K B (tTest te) Γ H b := fun σ H1 E e Q q => h σ H1 E e _ fun v H2 e2 v2 => by
  cases (show Is H2 v (.bool b) from v2)
  exact ⟨b, rfl, q H2 e2⟩
theorem et_B {b : Bool} (h : Ev K B te Γ H (.d (.bool b))) : EvT K B (tB te) Γ H b := fun σ H1 E e Q q => h σ H1 E e _ fun v H2 e2 v2 => by
  cases (show Is H2 v (.bool b) from v2)
  exact ⟨b, rfl, q H2 e2⟩
theorem et_and {a b : Bool} (h1 : EvT K B tt Γ H a) (h2 : a = true → EvT K B tu Γ H b) : EvT K B (tAnd tt tu) Γ H (a && b) := fun σ H1 E e Q q => h1 σ H1 E e _ fun H2 e2 => by
  cases a with
  | true => exact h2 rfl σ H2 (E.mono e2) (e.trans e2) Q fun H3 e3 => q H3 (e2.trans e3)
  | false => exact q H2 e2
theorem et_or {a b : Bool} (h1 : EvT K B tt Γ H a) (h2 : a = false → EvT K B tu Γ H b) : EvT K B (tOr tt tu) Γ H (a || b) := fun σ H1 E e Q q => h1 σ H1 E e _ fun H2 e2 => by
  cases a with
  | true => exact q H2 e2
  | false => exact h2 rfl σ H2 (E.mono e2) (e.trans e2) Q fun H3 e3 => q H3 (e2.trans e3)
theorem et_not {a : Bool} (h1 : EvT K B tt Γ H a) : EvT K B (tNot tt) Γ H (!a) := fun σ H1 E e Q q => h1 σ H1 E e _ fun H2 e2 => q H2 e2
theorem ev_andV {a b : Bool} (h1 : Ev K B ta Γ H (.d (.bool a))) (h2 : a = true → Ev K B tb Γ H (.d (.bool b))) : Ev K B (tAndV ta tb) Γ H (.d (.bool (a && b))) := fun σ H1 E e Q q => h1 σ H1 E e _ fun v H2 e2 v2 => by
  cases (show Is H2 v (.bool a) from v2)
  refine ⟨a, rfl, ?_⟩
  cases a with
  | true => exact h2 rfl σ H2 (E.mono e2) (e.trans e2) Q fun v H3 e3 v3 => q v H3 (e2.trans e3) v3
  | false => exact q _ H2 e2 (.bl false)
theorem ev_notV {a : Bool} (h1 : Ev K B ta Γ H (.d (.bool a))) : Ev K B (tNotV ta) Γ H (.d (.bool (!a))) := fun σ H1 E e Q q => h1 σ H1 E e _ fun v H2 e2 v2 => by
  cases (show Is H2 v (.bool a) from v2)
  exact ⟨a, rfl, q _ H2 e2 (.bl _)⟩
theorem ev_if {b : Bool} (h : EvT K B tt Γ H b) (h1 : b = true → Ev K B ta Γ H s) (h2 : b = false → Ev K B tb Γ H s) : Ev K B (tIf tt ta tb) Γ H s := fun σ H1 E e Q q => h σ H1 E e _ fun H2 e2 => by
  cases b with
  | true => exact h1 rfl σ H2 (E.mono e2) (e.trans e2) Q fun v H3 e3 v3 => q v H3 (e2.trans e3) v3
  | false => exact h2 rfl σ H2 (E.mono e2) (e.trans e2) Q fun v H3 e3 v3 => q v H3 (e2.trans e3) v3
theorem en_if {b : Bool} (h : EvT K B tt Γ H b) (h1 : b = true → EvN K B ta Γ H ds) (h2 : b = false → EvN K B tb Γ H ds) : EvN K B (tIf tt ta tb) Γ H ds := fun σ H1 E e Q q => h σ H1 E e _ fun H2 e2 => by
  cases b with
  | true => exact h1 rfl σ H2 (E.mono e2) (e.trans e2) Q fun p vs H3 hp e3 h3 v3 => q p vs H3 (e2.sm p hp) (e2.trans e3) h3 v3
  | false => exact h2 rfl σ H2 (E.mono e2) (e.trans e2) Q fun p vs H3 hp e3 h3 v3 => q p vs H3 (e2.sm p hp) (e2.trans e3) h3 v3
/-! ### operators on ints -/
theorem o_I0 {g : Int → Int → Int} {i j : Int} : Op2 K B (rI0 fun i j => .int (g i j)) (.d (.int i)) (.d (.int j)) H (.d (.int (g i j))) := fun x y H1 _ _ hx hy Q q => by
  cases (show Is H1 x (.int i) from hx)
  cases (show Is H1 y (.int j) from hy)
  exact ⟨i, j, rfl, rfl, q _ H1 (Ex.refl K H1) (.int _)⟩
theorem o_B0 {g : Int → Int → Bool} {i j : Int} : Op2 K B (rI0 fun i j => .bl (g i j)) (.d (.int i)) (.d (.int j)) H (.d (.bool (g i j))) := fun x y H1 _ _ hx hy Q q => by
  cases (show Is H1 x (.int i) from hx)
  cases (show Is H1 y (.int j) from hy)
  exact ⟨i, j, rfl, rfl, q _ H1 (Ex.refl K H1) (.bl _)⟩
theorem o_I {C : Int → Int → Prop} {g : Int → Int → Int} {i j : Int} (hc : C i j) : Op2 K B (rI C fun i j => .int (g i j)) (.d (.int i)) (.d (.int j)) H (.d (.int (g i j))) := fun x y H1 _ _ hx hy Q q => by
  cases (show Is H1 x (.int i) from hx)
  cases (show Is H1 y (.int j) from hy)
  exact ⟨i, j, rfl, rfl, hc, q _ H1 (Ex.refl K H1) (.int _)⟩
theorem o_eqI {i j : Int} : Op2 K B rEq (.d (.int i)) (.d (.int j)) H (.d (.bool (decide (i = j)))) := fun x y H1 _ _ hx hy Q q => by
  cases (show Is H1 x (.int i) from hx)
  cases (show Is H1 y (.int j) from hy)
  refine ⟨rfl, ?_⟩
  have e : decide (V.int i = V.int j) = decide (i = j) := by
    by_cases h : i = j
    · subst h; simp
    · simp [h]
  rw [e]
  exact q _ H1 (Ex.refl K H1) (.bl _)
theorem o_neI {i j : Int} : Op2 K B rNe (.d (.int i)) (.d (.int j)) H (.d (.bool (!decide (i = j)))) := fun x y H1 _ _ hx hy Q q => by
  cases (show Is H1 x (.int i) from hx)
  cases (show Is H1 y (.int j) from hy)
  refine ⟨rfl, ?_⟩
  have e : decide (V.int i = V.int j) = decide (i = j) := by
    by_cases h : i = j
    · subst h; simp
    · simp [h]
  rw [e]
  exact q _ H1 (Ex.refl K H1) (.bl _)
theorem o_eqB {i j : Bool} : Op2 K B rEq (.d (.bool i)) (.d (.bool j)) H (.d (.bool (decide (i = j)))) := fun x y H1 _ _ hx hy Q q => by
  cases (show Is H1 x (.bool i) from hx)
  cases (show Is H1 y (.bool j) from hy)
  refine ⟨rfl, ?_⟩
  have e : decide (V.bl i = V.bl j) = decide (i = j) := by
    by_cases h : i = j
    · subst h; simp
    · simp [h]
  rw [e]
  exact q _ H1 (Ex.refl K H1) (.bl _)
theorem o_neB {i j : Bool} : Op2 K B rNe (.d (.bool i)) (.d (.bool j)) H (.d (.bool (!decide (i = j)))) := fun x y H1 _ _ hx hy Q q => by
  cases (show Is H1 x (.bool i) from hx)
  cases (show Is H1 y (.bool j) from hy)
  refine ⟨rfl, ?_⟩
  have e : decide (V.bl i = V.bl j) = decide (i = j) := by
    by_cases h : i = j
    · subst h; simp
    · simp [h]
  rw [e]
  exact q _ H1 (Ex.refl K H1) (.bl _)
/-! ### subscripts, len -/
theorem o_ixT {j : Nat} {d : PyData} (h : ds[j]? = some d) : Op2 K B (rIxT K) (.d (.tuple ds)) (.d (.int (j : Int))) H (.d d) := fun x y H1 _ _ hx hy Q q => by
  cases (show Is H1 y (.int (j : Int)) from hy)
  cases (show Is H1 x (.tuple ds) from hx) with
  | tup h1 h2 =>
    obtain ⟨v, hv, iv⟩ := h2.at h
    exact ⟨_, _, _, v, rfl, rfl, .inl h1, atI_nat hv, q v H1 (Ex.refl K H1) iv⟩
theorem o_ixL {p : Addr} {vs : List V} {j : Nat} {v : V} (hp : H p = some (.lst vs)) (nr : ¬ isRow (.lst vs)) (hv : vs[j]? = some v) (hs : ∀ H1, Ex K B H H1 → SlOk H1 s v) : Op2 K B (rIxL K) (.r p) (.d (.int (j : Int))) H s := fun x y H1 _ e hx hy Q q => by
  cases (show Is H1 y (.int (j : Int)) from hy)
  obtain rfl : x = .ref p := hx
  exact ⟨p, vs, _, v, rfl, rfl, .inl (.inl (e.lst hp nr)), atI_nat hv, q v H1 (Ex.refl K H1) (hs H1 e)⟩
abbrev rLn (K : PySem.W.Frag) : List V → Hp → VK → Prop := fun xs H Q => ∃ p ys, xs = [.ref p] ∧ (SqL K H p ys ∨ SqT K H p ys) ∧ Q (.int ys.length) H
theorem o_lenT : OpL K B (rLn K) [.d (.tuple ds)] H (.d (nD ds.length)) := fun vs H1 _ _ hv Q q => by
  cases hv with
  | cons h1 h2 =>
    cases h2
    cases (show Is H1 _ (.tuple ds) from h1) with
    | tup a b =>
      refine ⟨_, _, rfl, .inr (.inl a), ?_⟩
      rw [b.len]
      exact q _ H1 (Ex.refl K H1) (.int _)
theorem o_lenD : OpL K B (rLn K) [.d (.list ds)] H (.d (nD ds.length)) := fun vs H1 _ _ hv Q q => by
  cases hv with
  | cons h1 h2 =>
    cases h2
    cases (show Is H1 _ (.list ds) from h1) with
    | lst a c b =>
      refine ⟨_, _, rfl, .inl (.inl (.inl a)), ?_⟩
      rw [b.len]
      exact q _ H1 (Ex.refl K H1) (.int _)
theorem o_lenL {p : Addr} {us : List V} (hp : H p = some (.lst us)) (nr : ¬ isRow (.lst us)) : OpL K B (rLn K) [.r p] H (.d (nD us.length)) := fun vs H1 _ e hv Q q => by
  cases hv with
  | cons h1 h2 =>
    cases h2
    cases h1
    exact ⟨p, us, rfl, .inl (.inl (.inl (e.lst hp nr))), q _ H1 (Ex.refl K H1) (.int _)⟩
end

/-! ### statements -/
section
variable {K : PySem.W.Frag} {B : Tbs} {Γ : Ga} {σ : St} {H : Hp} {te ta : TE} {tt : TT} {s : Sl} {ds : List PyData} {D : Ends} {tu tw tz : TS}
theorem s_asg {i : Nat} (E : Env B σ H Γ) (h : Ev K B te Γ H s) (k : ∀ v H1, Ex K B H H1 → SlOk H1 s v → Env B (σ.set i (some v)) H1 (Γ.set i (some s)) → D.nx (σ.set i (some v)) H1) : tAsg te (gName i) D σ H :=
  h σ H E (Ex.refl K H) _ fun v H1 e v1 => k v H1 e v1 ((E.mono e).set v1)
theorem q_asg {i : Nat} (E : Env B σ H Γ) (h : Ev K B te Γ H s) (k : ∀ v H1, Ex K B H H1 → SlOk H1 s v → Env B (σ.set i (some v)) H1 (Γ.set i (some s)) → tz D (σ.set i (some v)) H1) : tSeq (tAsg te (gName i)) tz D σ H := s_asg (D := { D with nx := tz D }) E h k
theorem s_asgN {i : Nat} (E : Env B σ H Γ) (h : EvN K B te Γ H ds) (k : ∀ p vs H1, H p = none → Ex K B H H1 → H1 p = some (.lst vs) → IsAll H1 vs ds → Env B (σ.set i (some (.ref p))) H1 (Γ.set i (some (.r p))) → D.nx (σ.set i (some (.ref p))) H1) : tAsg te (gName i) D σ H :=
  h σ H E (Ex.refl K H) _ fun p vs H1 hp e h1 i1 => k p vs H1 hp e h1 i1 ((E.mono e).set (s := .r p) rfl)
theorem q_asgN {i : Nat} (E : Env B σ H Γ) (h : EvN K B te Γ H ds) (k : ∀ p vs H1, H p = none → Ex K B H H1 → H1 p = some (.lst vs) → IsAll H1 vs ds → Env B (σ.set i (some (.ref p))) H1 (Γ.set i (some (.r p))) → tz D (σ.set i (some (.ref p))) H1) : tSeq (tAsg te (gName i)) tz D σ H := s_asgN (D := { D with nx := tz D }) E h k
theorem s_ret (E : Env B σ H Γ) (h : Ev K B te Γ H s) (k : ∀ v H1, Ex K B H H1 → SlOk H1 s v → D.rt v H1) : tRet te D σ H := h σ H E (Ex.refl K H) _ k
theorem s_retN (E : Env B σ H Γ) (h : EvN K B te Γ H ds) (k : ∀ p vs H1, H p = none → Ex K B H H1 → H1 p = some (.lst vs) → IsAll H1 vs ds → D.rt (.ref p) H1) : tRet te D σ H := h σ H E (Ex.refl K H) _ k
theorem s_if {b : Bool} (E : Env B σ H Γ) (h : EvT K B tt Γ H b) (h1 : b = true → ∀ H1, Ex K B H H1 → Env B σ H1 Γ → tu D σ H1) (h2 : b = false → ∀ H1, Ex K B H H1 → Env B σ H1 Γ → tw D σ H1) : tIfS tt tu tw D σ H := h σ H E (Ex.refl K H) _ fun H1 e => by
  cases b with
  | true => exact h1 rfl H1 e (E.mono e)
  | false => exact h2 rfl H1 e (E.mono e)
theorem q_if {b : Bool} (E : Env B σ H Γ) (h : EvT K B tt Γ H b) (h1 : b = true → ∀ H1, Ex K B H H1 → Env B σ H1 Γ → tu { D with nx := tz D } σ H1) (h2 : b = false → ∀ H1, Ex K B H H1 → Env B σ H1 Γ → tw { D with nx := tz D } σ H1) : tSeq (tIfS tt tu tw) tz D σ H := s_if (D := { D with nx := tz D }) E h h1 h2
/-- if: return, not taken -/
theorem q_no (E : Env B σ H Γ) (h : EvT K B tt Γ H false) (k : ∀ H1, Ex K B H H1 → Env B σ H1 Γ → tz D σ H1) : tSeq (tIfS tt tu tNext) tz D σ H := q_if E h (fun z => nomatch z) fun _ => k
theorem s_drop (E : Env B σ H Γ) (h : Ev K B te Γ H s) (k : ∀ H1, Ex K B H H1 → Env B σ H1 Γ → D.nx σ H1) : tDrop te D σ H := h σ H E (Ex.refl K H) _ fun v H1 e _ => k H1 e (E.mono e)
theorem q_drop (E : Env B σ H Γ) (h : Ev K B te Γ H s) (k : ∀ H1, Ex K B H H1 → Env B σ H1 Γ → tz D σ H1) : tSeq (tDrop te) tz D σ H := s_drop (D := { D with nx := tz D }) E h k
/-- a, b = a tuple of two -/
theorem q_two {i j : Nat} {d1 d2 : PyData} (E : Env B σ H Γ) (h : Ev K B te Γ H (.d (.tuple [d1, d2])))
    (k : ∀ v w H1, Ex K B H H1 → Is H1 v d1 → Is H1 w d2 → Env B ((σ.set i (some v)).set j (some w)) H1 ((Γ.set i (some (.d d1))).set j (some (.d d2))) → tz D ((σ.set i (some v)).set j (some w)) H1) :
    tSeq (tAsg te (gTup K 2 (gCons (gName i) (gCons (gName j) gNil)))) tz D σ H :=
  h σ H E (Ex.refl K H) _ fun v H1 e v1 => by
    cases (show Is H1 v (.tuple [d1, d2]) from v1) with
    | tup h1 h2 =>
      cases h2 with
      | cons a1 h3 =>
        cases h3 with
        | cons a2 h4 =>
          cases h4
          exact ⟨_, _, rfl, .inl h1, rfl, _, _, rfl, _, _, rfl, rfl, k _ _ H1 e a1 a2 (((E.mono e).set (s := .d d1) a1).set (s := .d d2) a2)⟩
/-! ### what a body may do to the heap while it walks -/
/-- tuples are kept -/
def Tk (H H' : Hp) : Prop := ∀ a vs, Rd H a (.tup vs) → Rd H' a (.tup vs)
theorem Tk.refl (H : Hp) : Tk H H := fun _ _ h => h
theorem Tk.trans {H H1 H2 : Hp} (a : Tk H H1) (b : Tk H1 H2) : Tk H H2 := fun c vs h => b c vs (a c vs h)
theorem Ex.tk {H H1 : Hp} (e : Ex K B H H1) : Tk H H1 := fun a vs h => e.rd h
theorem tk_upd {p : Addr} {o : HO} (hp : Plain (H p)) : Tk H (upd H p o) := nt_upd (plain_nt hp)
theorem Tk.is {H H1 : Hp} {d : PyData} {v : V} (t : Tk H H1) (l : lf d = true) (h : Is H v d) : Is H1 v d := is_lf t d v l h
theorem Tk.isAll {H H1 : Hp} {ds : List PyData} {vs : List V} (t : Tk H H1) (l : lfAll ds = true) (h : IsAll H vs ds) : IsAll H1 vs ds := isAll_lf t ds vs l h
/-! ### for -/
/-- over a tuple -/
theorem s_forT {j : Nat} (E : Env B σ H Γ) (h : Ev K B te Γ H (.d (.tuple ds))) (hl : lfAll ds = true) (Pv : Nat → St → Hp → Prop) (h0 : ∀ H1, Ex K B H H1 → Env B σ H1 Γ → Pv 0 σ H1)
    (hs : ∀ i d v σ' H', ds[i]? = some d → Is H' v d → Pv i σ' H' → tu { D with nx := fun σ2 H2 => Pv (i + 1) σ2 H2 ∧ Tk H' H2, ct := fun σ2 H2 => Pv (i + 1) σ2 H2 ∧ Tk H' H2, bk := D.nx } (σ'.set j (some v)) H')
    (hd : ∀ σ' H', Pv ds.length σ' H' → D.nx σ' H') : tFor (iTup K te) (gName j) tu D σ H :=
  h σ H E (Ex.refl K H) _ fun v H1 e v1 => by
    cases (show Is H1 v (.tuple ds) from v1) with
    | @tup a vs _ h1 h2 =>
      refine ⟨a, rfl, ⟨vs, .inl h1⟩, ?_⟩
      have hlen := h2.len
      refine ⟨fun i m σ' H' => m = vs.length - i ∧ i ≤ vs.length ∧ Pv i σ' H' ∧ Tk H1 H', ⟨vs.length, by simp, Nat.zero_le _, h0 H1 e (E.mono e), Tk.refl _⟩, ?_⟩
      rintro i m σ' H' ⟨rfl, hi, p, t⟩
      have hq : SqT K H' a vs := .inl (t a vs h1)
      by_cases hlt : i < vs.length
      · refine .inr ⟨⟨vs, vs[i], hq, by simp [hlt]⟩, fun σ2 H2 => Pv (i + 1) σ2 H2 ∧ Tk H' H2, fun σ2 H2 p2 => ⟨vs.length - (i + 1), by omega, rfl, hlt, p2.1, t.trans p2.2⟩, fun x H2 y => ?_⟩
        obtain ⟨e2, y⟩ := y
        subst e2
        have hx := y vs hq
        obtain ⟨d, hd', id'⟩ := h2.at' hx
        have ld : lf d = true := by
          have q : ∀ (l : List PyData), lfAll l = true → d ∈ l → lf d = true := by
            intro l
            induction l with
            | nil => intro _ z; simp at z
            | cons c l ih =>
              intro hc hm
              have hc2 : lf c = true ∧ lfAll l = true := by simpa [lfAll] using hc
              rcases List.mem_cons.mp hm with z | z
              · rw [z]; exact hc2.1
              · exact ih hc2.2 z
          exact q ds hl (List.mem_of_getElem? hd')
        exact hs i d x σ' _ hd' (t.is ld id') p
      · have ei : i = vs.length := by omega
        subst ei
        refine .inl ⟨⟨vs, hq, Nat.le_refl _⟩, hd σ' H' ?_⟩
        rw [← hlen]
        exact p
theorem q_forT {j : Nat} (E : Env B σ H Γ) (h : Ev K B te Γ H (.d (.tuple ds))) (hl : lfAll ds = true) (Pv : Nat → St → Hp → Prop) (h0 : ∀ H1, Ex K B H H1 → Env B σ H1 Γ → Pv 0 σ H1)
    (hs : ∀ i d v σ' H', ds[i]? = some d → Is H' v d → Pv i σ' H' → tu { D with nx := fun σ2 H2 => Pv (i + 1) σ2 H2 ∧ Tk H' H2, ct := fun σ2 H2 => Pv (i + 1) σ2 H2 ∧ Tk H' H2, bk := tz D } (σ'.set j (some v)) H')
    (hd : ∀ σ' H', Pv ds.length σ' H' → tz D σ' H') : tSeq (tFor (iTup K te) (gName j) tu) tz D σ H := s_forT (D := { D with nx := tz D }) E h hl Pv h0 hs hd
/-- over a new list -/
theorem s_forN {j : Nat} (E : Env B σ H Γ) (h : EvN K B te Γ H ds) (Pv : Addr → List V → Nat → St → Hp → Prop) (h0 : ∀ p vs H1, H p = none → Ex K B H H1 → H1 p = some (.lst vs) → IsAll H1 vs ds → Env B σ H1 Γ → Pv p vs 0 σ H1)
    (hl : ∀ p vs i σ' H', Pv p vs i σ' H' → H' p = some (.lst vs))
    (hs : ∀ p vs i v σ' H', vs[i]? = some v → Pv p vs i σ' H' → tu { D with nx := Pv p vs (i + 1), ct := Pv p vs (i + 1), bk := D.nx } (σ'.set j (some v)) H')
    (hd : ∀ p vs σ' H', Pv p vs vs.length σ' H' → D.nx σ' H') : tFor (iList K te) (gName j) tu D σ H :=
  h σ H E (Ex.refl K H) _ fun p vs H1 hp e h1 i1 =>
    ⟨p, rfl, ⟨vs, .inl (.inl h1)⟩, for_list (Pv p vs) (h0 p vs H1 hp e h1 i1 (E.mono e)) (fun i σ' H' _ q => .inl (.inl (hl p vs i σ' H' q))) (fun i x σ' H' hx q => hs p vs i x σ' H' hx q) fun σ' H' q => hd p vs σ' H' q⟩
theorem q_forN {j : Nat} (E : Env B σ H Γ) (h : EvN K B te Γ H ds) (Pv : Addr → List V → Nat → St → Hp → Prop) (h0 : ∀ p vs H1, H p = none → Ex K B H H1 → H1 p = some (.lst vs) → IsAll H1 vs ds → Env B σ H1 Γ → Pv p vs 0 σ H1)
    (hl : ∀ p vs i σ' H', Pv p vs i σ' H' → H' p = some (.lst vs))
    (hs : ∀ p vs i v σ' H', vs[i]? = some v → Pv p vs i σ' H' → tu { D with nx := Pv p vs (i + 1), ct := Pv p vs (i + 1), bk := tz D } (σ'.set j (some v)) H')
    (hd : ∀ p vs σ' H', Pv p vs vs.length σ' H' → tz D σ' H') : tSeq (tFor (iList K te) (gName j) tu) tz D σ H := s_forN (D := { D with nx := tz D }) E h Pv h0 hl hs hd
/-- over range(n) -/
theorem s_forR {j : Nat} {n : Nat} (E : Env B σ H Γ) (h : Ev K B te Γ H (.d (nD n))) (hn : n ≤ 1000) (Pv : Nat → St → Hp → Prop) (h0 : ∀ H1, Ex K B H H1 → Env B σ H1 Γ → Pv 0 σ H1)
    (hs : ∀ i σ' H', i < n → Pv i σ' H' → tu { D with nx := Pv (i + 1), ct := Pv (i + 1), bk := D.nx } (σ'.set j (some (nV i))) H') (hd : ∀ σ' H', Pv n σ' H' → D.nx σ' H') : tFor (iRng1 (tCons te tNil)) (gName j) tu D σ H :=
  h σ H E (Ex.refl K H) _ fun v H1 e v1 => by
    cases (show Is H1 v (.int (n : Int)) from v1)
    refine ⟨(n : Int), rfl, by omega, by omega, ?_⟩
    refine for_range (lo := 0) (n := (n : Int).toNat) Pv (h0 H1 e (E.mono e)) (fun i σ' H' hi p => ?_) fun σ' H' p => hd σ' H' (by simpa using p)
    have e0 : (0 : Int) + (i : Int) = (i : Int) := Int.zero_add _
    show tu { D with nx := Pv (i + 1), ct := Pv (i + 1), bk := D.nx } (σ'.set j (some (.int ((0 : Int) + (i : Int))))) H'
    rw [e0]
    exact hs i σ' H' (by simpa using hi) p
theorem q_forR {j : Nat} {n : Nat} (E : Env B σ H Γ) (h : Ev K B te Γ H (.d (nD n))) (hn : n ≤ 1000) (Pv : Nat → St → Hp → Prop) (h0 : ∀ H1, Ex K B H H1 → Env B σ H1 Γ → Pv 0 σ H1)
    (hs : ∀ i σ' H', i < n → Pv i σ' H' → tu { D with nx := Pv (i + 1), ct := Pv (i + 1), bk := tz D } (σ'.set j (some (nV i))) H') (hd : ∀ σ' H', Pv n σ' H' → tz D σ' H') : tSeq (tFor (iRng1 (tCons te tNil)) (gName j) tu) tz D σ H := s_forR (D := { D with nx := tz D }) E h hn Pv h0 hs hd
/-- while, by a measure -/
theorem q_while (W : Nat → St → Hp → Prop) (m0 : Nat) (h0 : W m0 σ H)
    (hs : ∀ m σ' H', W m σ' H' → ∃ Γ' b, Env B σ' H' Γ' ∧ EvT K B tt Γ' H' b ∧ (b = true → ∀ H1, Ex K B H' H1 → Env B σ' H1 Γ' → tu { D with nx := fun σ2 H2 => ∃ m', m' < m ∧ W m' σ2 H2, ct := fun σ2 H2 => ∃ m', m' < m ∧ W m' σ2 H2, bk := tz D } σ' H1) ∧ (b = false → ∀ H1, Ex K B H' H1 → Env B σ' H1 Γ' → tz D σ' H1)) : tSeq (tWhile tt tu) tz D σ H :=
  ⟨W, ⟨m0, h0⟩, fun m σ' H' hw => by
    obtain ⟨Γ', b, E', hb, h1, h2⟩ := hs m σ' H' hw
    refine hb σ' H' E' (Ex.refl K H') _ fun H1 e => ?_
    cases b with
    | true => exact ⟨_, fun σ2 H2 q => q, h1 rfl H1 e (E'.mono e)⟩
    | false => exact h2 rfl H1 e (E'.mono e)⟩
theorem s_while (W : Nat → St → Hp → Prop) (m0 : Nat) (h0 : W m0 σ H)
    (hs : ∀ m σ' H', W m σ' H' → ∃ Γ' b, Env B σ' H' Γ' ∧ EvT K B tt Γ' H' b ∧ (b = true → ∀ H1, Ex K B H' H1 → Env B σ' H1 Γ' → tu { D with nx := fun σ2 H2 => ∃ m', m' < m ∧ W m' σ2 H2, ct := fun σ2 H2 => ∃ m', m' < m ∧ W m' σ2 H2, bk := D.nx } σ' H1) ∧ (b = false → ∀ H1, Ex K B H' H1 → Env B σ' H1 Γ' → D.nx σ' H1)) : tWhile tt tu D σ H :=
  ⟨W, ⟨m0, h0⟩, fun m σ' H' hw => by
    obtain ⟨Γ', b, E', hb, h1, h2⟩ := hs m σ' H' hw
    refine hb σ' H' E' (Ex.refl K H') _ fun H1 e => ?_
    cases b with
    | true => exact ⟨_, fun σ2 H2 q => q, h1 rfl H1 e (E'.mono e)⟩
    | false => exact h2 rfl H1 e (E'.mono e)⟩
end

/-! ### comprehensions -/
def wipeG (Γ : Ga) : List Nat → Ga
  | [] => Γ
  | v :: vs => (wipeG Γ vs).set v none
section
variable {K : PySem.W.Frag} {B : Tbs} {Γ : Ga} {σ : St} {H : Hp} {te tl : TE} {tt : TT} {ds : List PyData}
theorem Env.wipe (E : Env B σ H Γ) : ∀ vs : List Nat, Env B (L2.wipe σ vs) H (wipeG Γ vs)
  | [] => E
  | v :: vs => by
    have E2 := E.wipe vs
    refine ⟨E2.tb, (by
      show ((L2.wipe σ vs).set v none).length = ((wipeG Γ vs).set v none).length
      rw [List.length_set, List.length_set, E2.len]), fun j g hg => ?_⟩
    have hg : ((wipeG Γ vs).set v none)[j]? = some (some g) := hg
    by_cases hj : v = j
    · subst hj
      by_cases hl : v < (wipeG Γ vs).length
      · rw [List.getElem?_set_self hl] at hg; cases hg
      · rw [List.getElem?_eq_none (by simpa using hl)] at hg; cases hg
    · rw [List.getElem?_set_ne hj] at hg
      obtain ⟨v', h1, h2⟩ := E2.at_ j g hg
      refine ⟨v', ?_, h2⟩
      show ((L2.wipe σ vs).set v none)[j]? = some (some v')
      rw [List.getElem?_set_ne hj]
      exact h1
/-- an int or not: a list of one kind is no row -/
def tagI : PyData → Bool
  | .int _ => true
  | _ => false
def Hom (P : PyData → Prop) : Prop := (∀ d, P d → tagI d = true) ∨ (∀ d, P d → tagI d = false)
theorem hom_row {P : PyData → Prop} (h : Hom P) {es : List PyData} (he : ∀ d ∈ es, P d) : rowD es = false := by
  cases q : rowD es with
  | false => rfl
  | true =>
    exfalso
    match es, q, he with
    | [.tuple a, .int b, .int c, .int d], _, he =>
      rcases h with h | h
      · exact absurd (h _ (he (.tuple a) (by simp))) (by simp [tagI])
      · exact absurd (h _ (he (.int b) (by simp))) (by simp [tagI])
    | [.list a, .int b, .int c, .int d], _, he =>
      rcases h with h | h
      · exact absurd (h _ (he (.list a) (by simp))) (by simp [tagI])
      · exact absurd (h _ (he (.int b) (by simp))) (by simp [tagI])
theorem row_tD (ts : List (List Nat)) : rowD (ts.map tD) = false :=
  hom_row (P := fun d => ∃ t, d = tD t) (.inr fun d ⟨t, e⟩ => by rw [e]; rfl) fun d hd => by
    obtain ⟨t, _, e⟩ := List.mem_map.mp hd
    exact ⟨t, e.symm⟩
theorem row_nD (ns : List Nat) : rowD (ns.map nD) = false :=
  hom_row (P := fun d => ∃ n : Nat, d = nD n) (.inl fun d ⟨t, e⟩ => by rw [e]; rfl) fun d hd => by
    obtain ⟨t, _, e⟩ := List.mem_map.mp hd
    exact ⟨t, e.symm⟩
/-- the list as it grows: what of the first i items was kept -/
structure Cw (K : PySem.W.Frag) (B : Tbs) (H1 : Hp) (D : Addr) (es : List PyData) (H' : Hp) : Prop where
  nw : H1 D = none
  ex : Ex K B H1 H'
  at_ : ∃ us, H' D = some (.lst us) ∧ IsAll H' us es
theorem lfAll_app : ∀ {a b : List PyData}, lfAll (a ++ b) = (lfAll a && lfAll b)
  | [], b => by simp [lfAll]
  | x :: a, b => by simp [lfAll, lfAll_app (a := a) (b := b), Bool.and_assoc]
theorem lfAll_of {l : List PyData} (h : ∀ d ∈ l, lf d = true) : lfAll l = true := by
  induction l with
  | nil => rfl
  | cons d l ih => simp [lfAll, h d List.mem_cons_self, ih fun x hx => h x (List.mem_cons_of_mem _ hx)]
theorem lfAll_mem {l : List PyData} (h : lfAll l = true) {d : PyData} (hd : d ∈ l) : lf d = true := by
  induction l with
  | nil => simp at hd
  | cons c l ih =>
    have hc : lf c = true ∧ lfAll l = true := by simpa [lfAll] using h
    rcases List.mem_cons.mp hd with z | z
    · rw [z]; exact hc.1
    · exact ih hc.2 z
theorem cw_turn {H0 H1 H' : Hp} {D : Addr} {es : List PyData} {b : Bool} {d : PyData} {σ2 : St} {Γ2 : Ga} (c : Cw K B H1 D es H') (e01 : Ex K B H0 H1) (E : Env B σ2 H' Γ2) (hl : es.length < 999) (les : lfAll es = true) (hr : rowD es = false)
    (ht : EvT K B tt Γ2 H0 b) (he : b = true → Ev K B te Γ2 H0 (.d d) ∧ lf d = true) :
    tt σ2 H' fun c H3 => if c = true then te σ2 H3 fun y H4 => ∃ acc, H4 D = some (.lst acc) ∧ acc.length < sizeLine ∧ Cw K B H1 D (if b = true then es ++ [d] else es) (upd H4 D (.lst (acc ++ [y]))) else Cw K B H1 D (if b = true then es ++ [d] else es) H3 := by
  obtain ⟨us, h1, h2⟩ := c.at_
  have nr : ¬ isRow (.lst us) := norow_of h2 hr
  refine ht σ2 H' E (e01.trans c.ex) _ fun H3 e3 => ?_
  cases b with
  | false => exact ⟨c.nw, c.ex.trans e3, us, e3.lst h1 nr, h2.mono e3⟩
  | true =>
    obtain ⟨hv, ld⟩ := he rfl
    refine hv σ2 H3 (E.mono e3) ((e01.trans c.ex).trans e3) _ fun y H4 e4 y4 => ?_
    have hD : H4 D = some (.lst us) := (e3.trans e4).lst h1 nr
    have np : ∀ xs, ¬ Rd H4 D (.tup xs) := fun xs z => by rcases z with z | ⟨_, z⟩ <;> rw [hD] at z <;> cases z
    refine ⟨us, hD, ltline (by rw [h2.len]; omega), c.nw, ((c.ex.trans e3).trans e4).mut c.nw (by rw [hD]; trivial), us ++ [y], upd_same, ?_⟩
    exact ((h2.mono (e3.trans e4)).upd les np).app (.one (Is.upd (show Is H4 y d from y4) ld np))
/-! what is walked -/
def Src (K : PySem.W.Frag) (B : Tbs) (wi : TI) (Γ : Ga) (H : Hp) (ds : List PyData) : Prop :=
  ∀ σ H1, Env B σ H1 Γ → Ex K B H H1 → ∀ R : It → Hp → Prop, (∀ (J : It) (H2 : Hp) (G : Hp → Prop) (Y : Nat → Hp → V → Hp → Prop), Ex K B H1 H2 → Walk J ds.length G Y → (∀ H3, Ex K B H2 H3 → G H3) →
    (∀ i d H3 v H4, ds[i]? = some d → Ex K B H2 H3 → Y i H3 v H4 → Ex K B H3 H4 ∧ Is H4 v d) → R J H2) → wi σ H1 R
theorem src_T (h : Ev K B tl Γ H (.d (.tuple ds))) : Src K B (iTup K tl) Γ H ds := fun σ H1 E e R k =>
  h σ H1 E e _ fun v H2 e2 v2 => by
    cases (show Is H2 v (.tuple ds) from v2) with
    | @tup a vs _ h1 h2 =>
      refine ⟨a, rfl, ⟨vs, .inl h1⟩, ?_⟩
      refine k _ H2 (fun H => SqT K H a vs) (YAt vs) e2 (by rw [← h2.len]; exact walk_tup) (fun H3 e3 => .inl (e3.rd h1)) fun i d H3 v H4 hd e3 y => ?_
      obtain ⟨e4, hv⟩ := y
      subst e4
      obtain ⟨v', hv', iv⟩ := h2.at hd
      rw [hv] at hv'
      cases hv'
      exact ⟨Ex.refl K _, iv.mono e3⟩
theorem src_L (h : Ev K B tl Γ H (.d (.list ds))) : Src K B (iList K tl) Γ H ds := fun σ H1 E e R k =>
  h σ H1 E e _ fun v H2 e2 v2 => by
    cases (show Is H2 v (.list ds) from v2) with
    | @lst a vs _ h1 nr h2 =>
      refine ⟨a, rfl, ⟨vs, .inl (.inl h1)⟩, ?_⟩
      refine k _ H2 (fun H => SqL K H a vs) (YAt vs) e2 (by rw [← h2.len]; exact walk_list) (fun H3 e3 => .inl (.inl (e3.lst h1 nr))) fun i d H3 v H4 hd e3 y => ?_
      obtain ⟨e4, hv⟩ := y
      subst e4
      obtain ⟨v', hv', iv⟩ := h2.at hd
      rw [hv] at hv'
      cases hv'
      exact ⟨Ex.refl K _, iv.mono e3⟩
theorem src_N (h : EvN K B tl Γ H ds) (hr : rowD ds = false) : Src K B (iList K tl) Γ H ds := src_L (h.ev hr)
theorem src_R {n : Nat} (h : Ev K B tl Γ H (.d (nD n))) (hn : n ≤ 1000) : Src K B (iRng1 (tCons tl tNil)) Γ H ((List.range n).map nD) := fun σ H1 E e R k =>
  h σ H1 E e _ fun v H2 e2 v2 => by
    cases (show Is H2 v (.int (n : Int)) from v2)
    refine ⟨(n : Int), rfl, by omega, by omega, ?_⟩
    refine k _ H2 (fun _ => True) (YFn fun i => .int (0 + (i : Int))) e2 (by rw [List.length_map, List.length_range]; exact walk_range) (fun _ _ => trivial) fun i d H3 v H4 hd e3 y => ?_
    obtain ⟨e4, hv⟩ := y
    subst e4 hv
    refine ⟨Ex.refl K _, ?_⟩
    rw [List.getElem?_map] at hd
    by_cases hi : i < n
    · rw [List.getElem?_range hi] at hd
      cases hd
      show Is H4 (.int (0 + (i : Int))) (nD i)
      rw [Int.zero_add]
      exact .int _
    · rw [List.getElem?_eq_none (by rw [List.length_range]; omega)] at hd
      cases hd
/-- what the target binds -/
def Tgt (K : PySem.W.Frag) (B : Tbs) (g : TG) (vs : List Nat) (d : PyData) (Γw Γ' : Ga) : Prop :=
  ∀ σ v H (Q : St → Hp → Prop), Env B (L2.wipe σ vs) H Γw → Is H v d → (∀ σ2, L2.wipe σ2 vs = L2.wipe σ vs → Env B σ2 H Γ' → Q σ2 H) → g v (L2.wipe σ vs) H Q
theorem tgt_name {j : Nat} {vs : List Nat} {d : PyData} {Γw : Ga} (hw : ∀ (σ : St) x, L2.wipe ((L2.wipe σ vs).set j (some x)) vs = L2.wipe σ vs) : Tgt K B (gName j) vs d Γw (Γw.set j (some (.d d))) := fun σ v H Q E hv k =>
  k _ (hw σ v) (E.set (s := .d d) hv)
theorem tgt_two {i j : Nat} {vs : List Nat} {d1 d2 : PyData} {Γw : Ga} (hw : ∀ (σ : St) x y, L2.wipe (((L2.wipe σ vs).set i (some x)).set j (some y)) vs = L2.wipe σ vs) :
    Tgt K B (gTup K 2 (gCons (gName i) (gCons (gName j) gNil))) vs (.tuple [d1, d2]) Γw ((Γw.set i (some (.d d1))).set j (some (.d d2))) := fun σ v H Q E hv k => by
  cases hv with
  | tup h1 h2 =>
    cases h2 with
    | cons a1 h3 =>
      cases h3 with
      | cons a2 h4 =>
        cases h4
        exact ⟨_, _, rfl, .inl h1, rfl, _, _, rfl, _, _, rfl, rfl, k _ (hw σ _ _) ((E.set (s := .d d1) a1).set (s := .d d2) a2)⟩
theorem wipe1 (j : Nat) (σ : St) (x : V) : L2.wipe ((L2.wipe σ [j]).set j (some x)) [j] = L2.wipe σ [j] := by
  show ((σ.set j none).set j (some x)).set j none = σ.set j none
  rw [List.set_set, List.set_set]
theorem wipe2 {i j : Nat} (h : i ≠ j) (σ : St) (x y : V) : L2.wipe (((L2.wipe σ [i, j]).set i (some x)).set j (some y)) [i, j] = L2.wipe σ [i, j] := by
  show (((((σ.set j none).set i none).set i (some x)).set j (some y)).set j none).set i none = (σ.set j none).set i none
  rw [List.set_set, List.set_set, List.set_comm _ _ h, List.set_set, List.set_set]
theorem filter_take_succ {α β : Type} {keep : α → Bool} {val : α → β} {l : List α} {i : Nat} {d : α} (h : l[i]? = some d) : ((l.take (i + 1)).filter keep).map val = if keep d = true then ((l.take i).filter keep).map val ++ [val d] else ((l.take i).filter keep).map val := by
  rw [List.take_add_one, h, List.filter_append, List.map_append]
  show _ ++ (List.map val (List.filter keep [d])) = _
  cases q : keep d <;> simp [q]
/-- THE RULE: [val x for target in source if keep x], the source's items told by xs -/
theorem en_lc {α : Type} {enc : α → PyData} {xs : List α} {wi : TI} {g : TG} {vs : List Nat} {keep : α → Bool} {val : α → PyData} {G' : α → Ga} (hS : Src K B wi Γ H (xs.map enc)) (hz : xs.length < 999)
    (hg : ∀ d ∈ xs, Tgt K B g vs (enc d) (wipeG Γ vs) (G' d)) (ht : ∀ d ∈ xs, EvT K B tt (G' d) H (keep d)) (he : ∀ d ∈ xs, keep d = true → Ev K B te (G' d) H (.d (val d)) ∧ lf (val d) = true)
    (hom : Hom fun x => ∃ d ∈ xs, keep d = true ∧ x = val d) : EvN K B (tLc wi g tt te vs) Γ H ((xs.filter keep).map val) := fun σ H1 E e Q q =>
  hS σ H1 E e _ fun J H2 G Y e2 W hG hY D hD => by
    have sub : ∀ i, ∀ x ∈ ((xs.take i).filter keep).map val, ∃ d ∈ xs, keep d = true ∧ x = val d := fun i x hx => by
      obtain ⟨d, hd, ex⟩ := List.mem_map.mp hx
      obtain ⟨h1, h2⟩ := List.mem_filter.mp hd
      exact ⟨d, List.mem_of_mem_take h1, h2, ex.symm⟩
    rw [List.length_map] at W
    refine lc_it W (fun i H' => Cw K B H2 D (((xs.take i).filter keep).map val) H') ⟨hD, Ex.new hD, [], upd_same, .nil⟩ (fun i H' _ c => hG H' c.ex) (fun i x H' H'' hi c y => ?_) fun H' c => ?_
    · obtain ⟨d, hd⟩ : ∃ d, xs[i]? = some d := ⟨xs[i], List.getElem?_eq_getElem hi⟩
      have hm : d ∈ xs := List.mem_of_getElem? hd
      obtain ⟨e3, iv⟩ := hY i (enc d) H' x H'' (by rw [List.getElem?_map, hd]; rfl) c.ex y
      have c2 : Cw K B H2 D (((xs.take i).filter keep).map val) H'' := by
        obtain ⟨us, h1, h2⟩ := c.at_
        exact ⟨c.nw, c.ex.trans e3, us, e3.lst h1 (norow_of h2 (hom_row hom (sub i))), h2.mono e3⟩
      refine hg d hm σ x H'' _ (((E.mono e2).mono c2.ex).wipe vs) iv fun σ2 w2 E2 => ⟨w2, ?_⟩
      have step := cw_turn (d := val d) c2 (e.trans e2) E2 (by
        rw [List.length_map]
        refine Nat.lt_of_le_of_lt (List.length_filter_le _ _) ?_
        rw [List.length_take]
        omega) (lfAll_of fun x hx => by
          obtain ⟨d', h1, h2, h3⟩ := sub i x hx
          rw [h3]
          exact (he d' h1 h2).2) (hom_row hom (sub i)) (ht d hm) (he d hm)
      rw [← filter_take_succ hd] at step
      exact step
    · rw [List.take_length] at c
      obtain ⟨us, h1, h2⟩ := c.at_
      exact q D us H' (e2.sm D hD) (e2.trans c.ex) h1 h2
/-- without a test -/
theorem et_yes {b : Bool} (hb : b = true) : EvT K B tYes Γ H b := fun σ H1 E e Q q => by
  rw [hb] at q
  exact q H1 (Ex.refl K H1)
theorem en_lcY {α : Type} {enc : α → PyData} {xs : List α} {wi : TI} {g : TG} {vs : List Nat} {val : α → PyData} {G' : α → Ga} (hS : Src K B wi Γ H (xs.map enc)) (hz : xs.length < 999)
    (hg : ∀ d ∈ xs, Tgt K B g vs (enc d) (wipeG Γ vs) (G' d)) (he : ∀ d ∈ xs, Ev K B te (G' d) H (.d (val d)) ∧ lf (val d) = true)
    (hom : Hom fun x => ∃ d ∈ xs, x = val d) : EvN K B (tLc wi g tYes te vs) Γ H (xs.map val) := by
  have h := en_lc (keep := fun _ => true) (val := val) hS hz hg (fun d _ => et_yes rfl) (fun d hd _ => he d hd) (by
    rcases hom with h | h
    · exact .inl fun x ⟨d, hd, _, ex⟩ => h x ⟨d, hd, ex⟩
    · exact .inr fun x ⟨d, hd, _, ex⟩ => h x ⟨d, hd, ex⟩)
  rwa [List.filter_eq_self.mpr (fun _ _ => rfl)] at h
theorem hom_int {P : PyData → Prop} (h : ∀ d, P d → ∃ i, d = .int i) : Hom P := .inl fun d hd => by
  obtain ⟨i, e⟩ := h d hd
  rw [e]
  rfl
theorem hom_tup {P : PyData → Prop} (h : ∀ d, P d → ∃ t, d = .tuple t) : Hom P := .inr fun d hd => by
  obtain ⟨i, e⟩ := h d hd
  rw [e]
  rfl
theorem row_hom {P : PyData → Prop} (h : Hom P) {ds : List PyData} (hd : ∀ d ∈ ds, P d) : rowD ds = false := hom_row h hd
/-! ### made of lists, ranges -/
abbrev rTupOf (K : PySem.W.Frag) : List V → Hp → VK → Prop := fun xs H Q => ∃ p ys, xs = [.ref p] ∧ ((SqL K H p ys ∧ ∀ l, H l = none → Q (.ref l) (upd H l (.tup ys))) ∨ (SqT K H p ys ∧ Q (.ref p) H))
abbrev rLstOf (K : PySem.W.Frag) : List V → Hp → VK → Prop := fun xs H Q => ∃ p ys, xs = [.ref p] ∧ (SqL K H p ys ∨ SqT K H p ys) ∧ ∀ l, H l = none → Q (.ref l) (upd H l (.lst ys))
theorem o_tupL {p : Addr} {us : List V} (hp : H p = some (.lst us)) (nr : rowD ds = false) (hi : IsAll H us ds) : OpL K B (rTupOf K) [.r p] H (.d (.tuple ds)) := fun vs H1 _ e hv Q q => by
  cases hv with
  | cons h1 h2 =>
    cases h2
    cases h1
    exact ⟨p, us, rfl, .inl ⟨.inl (.inl (e.lst hp (norow_of hi nr))), fun l hl => q _ _ (Ex.new hl) (.tup (.inl upd_same) ((hi.mono e).mono (Ex.new (K := K) (B := B) hl)))⟩⟩
theorem ev_tupN {te : TE} (h : EvN K B te Γ H ds) (nr : rowD ds = false) : Ev K B (tCB (rTupOf K) (tCons te tNil)) Γ H (.d (.tuple ds)) := ev_cbN h fun p vs H1 e h1 i1 => o_tupL h1 nr i1
theorem o_lstL {p : Addr} {us : List V} (hp : H p = some (.lst us)) (nr : rowD ds = false) (hi : IsAll H us ds) : OpLN K B (rLstOf K) [.r p] H ds := fun vs H1 _ e hv Q q => by
  cases hv with
  | cons h1 h2 =>
    cases h2
    cases h1
    exact ⟨p, us, rfl, .inl (.inl (.inl (e.lst hp (norow_of hi nr)))), fun l hl => q l us _ hl (Ex.new hl) upd_same ((hi.mono e).mono (Ex.new (K := K) (B := B) hl))⟩
end
end NB
set_option maxHeartbeats 2000000
/-! sorted of anything that is collected: ints, tuples of ints, tuples of these -/
namespace NB
open PySem PySem.Spec PyProof.Rows L2

/-! ### strict total orders, lists by their first unlike items -/
structure Sto {α : Type} (lt : α → α → Bool) : Prop where
  irr : ∀ x, lt x x = false
  tr : ∀ x y z, lt x y = true → lt y z = true → lt x z = true
  tot : ∀ x y, lt x y = false → lt y x = false → x = y
section
variable {α β : Type} {lt : α → α → Bool}
theorem Sto.asym (O : Sto lt) (x y : α) (h : lt x y = true) : lt y x = false := by
  cases e : lt y x with
  | false => rfl
  | true => rw [← O.irr x, ← O.tr x y x h e]
theorem Sto.swo (O : Sto lt) (k : β → α) : SrtO.Swo fun x y => lt (k x) (k y) := by
  refine ⟨fun x y h => O.asym _ _ h, fun x y z h1 h2 => ?_⟩
  cases e : lt (k z) (k x) with
  | false => rfl
  | true =>
    cases e1 : lt (k x) (k y) with
    | true => rw [← h2, ← O.tr _ _ _ e e1]
    | false =>
      have q := O.tot _ _ e1 h1
      rw [q] at e
      rw [← h2, ← e]
def lexD [DecidableEq α] (lt : α → α → Bool) : List α → List α → Bool
  | [], [] => false
  | [], _ :: _ => true
  | _ :: _, [] => false
  | x :: xs, y :: ys => if x = y then lexD lt xs ys else lt x y
theorem sto_lex [DecidableEq α] (O : Sto lt) : Sto (lexD lt) := by
  refine ⟨fun x => ?_, fun x => ?_, fun x => ?_⟩
  · induction x with
    | nil => rfl
    | cons a l ih => simp [lexD, ih]
  · induction x with
    | nil =>
      intro y z h1 h2
      cases z with
      | cons c z => rfl
      | nil => cases y <;> simp [lexD] at h1 h2
    | cons a l ih =>
      intro y z h1 h2
      cases y with
      | nil => simp [lexD] at h1
      | cons b y =>
        cases z with
        | nil => simp [lexD] at h2
        | cons c z =>
          simp only [lexD] at h1 h2 ⊢
          by_cases e1 : a = b
          · subst e1
            rw [if_pos rfl] at h1
            by_cases e2 : a = c
            · subst e2
              rw [if_pos rfl] at h2 ⊢
              exact ih y z h1 h2
            · rw [if_neg e2] at h2 ⊢
              exact h2
          · rw [if_neg e1] at h1
            by_cases e2 : b = c
            · subst e2
              rw [if_neg e1]
              exact h1
            · rw [if_neg e2] at h2
              have h3 := O.tr _ _ _ h1 h2
              rw [if_neg (fun q => by rw [q, O.irr] at h3; cases h3)]
              exact h3
  · induction x with
    | nil =>
      intro y h1 h2
      cases y with
      | nil => rfl
      | cons b y => simp [lexD] at h1
    | cons a l ih =>
      intro y h1 h2
      cases y with
      | nil => simp [lexD] at h2
      | cons b y =>
        simp only [lexD] at h1 h2
        by_cases e : a = b
        · subst e
          rw [if_pos rfl] at h1 h2
          rw [ih y h1 h2]
        · rw [if_neg e] at h1
          rw [if_neg (fun q => e q.symm)] at h2
          exact absurd (O.tot _ _ h1 h2) e
end
abbrev ltI (x y : Int) : Bool := decide (x < y)
theorem sto_int : Sto ltI := by
  refine ⟨fun x => decide_eq_false (by omega), fun x y z h1 h2 => ?_, fun x y h1 h2 => ?_⟩
  · have a := of_decide_eq_true h1
    have b := of_decide_eq_true h2
    exact decide_eq_true (by omega)
  · have a := of_decide_eq_false h1
    have b := of_decide_eq_false h2
    omega
abbrev ltL : List Int → List Int → Bool := lexD ltI
theorem sto_L : Sto ltL := sto_lex sto_int
abbrev ltLL : List (List Int) → List (List Int) → Bool := lexD ltL
theorem sto_LL : Sto ltLL := sto_lex sto_L
theorem lexLt_eq : ∀ x y : List Int, HT.lexLt x y = ltL x y
  | [], [] => rfl
  | [], _ :: _ => rfl
  | _ :: _, [] => rfl
  | a :: x, b :: y => by
    simp only [HT.lexLt, lexD]
    rw [lexLt_eq x y]

/-! ### the sort's questions -/
section
variable {prog : Program} {w : World} {A : Around} {E : Value → Shared → Prop} {s : Shared} {Q : Bool → Shared → Prop}
/-- as ltL, the end told -/
def lexZ {α : Type} [DecidableEq α] (lt : α → α → Bool) (fin : Bool) : List α → List α → Bool
  | x :: xs, y :: ys => if x = y then lexZ lt fin xs ys else lt x y
  | _, _ => fin
theorem lexZ_eq {α : Type} [DecidableEq α] (lt : α → α → Bool) : ∀ x y : List α, lexZ lt (decide (x.length < y.length)) x y = lexD lt x y
  | [], [] => by simp [lexZ, lexD]
  | [], _ :: _ => by simp [lexZ, lexD]
  | _ :: _, [] => by simp [lexZ, lexD]
  | a :: x, b :: y => by
    have ih := lexZ_eq lt x y
    simp only [lexZ, lexD, List.length_cons, Nat.add_lt_add_iff_right]
    rw [ih]
theorem lexI_run {b fin : Bool} {xs ys : List Value} {ns ms : List Int} (i : Nat) (hx : IntsAre xs ns) (hy : IntsAre ys ms) (h : Q (lexZ ltI fin ns ms) s) : PySem.W.KatLex prog w A b fin Q (xs.zip ys) i s := by
  induction hx generalizing ys ms i with
  | nil =>
    have h : Q fin s := h
    rw [List.zip_nil_left]
    exact PySem.W.kat_nil h
  | @cons p t xs ns hx ih =>
    cases hy with
    | nil =>
      rw [List.zip_nil_right]
      exact PySem.W.kat_nil h
    | @cons q u ys ms hy =>
      rw [List.zip_cons_cons]
      refine PySem.W.kat_cons (SeqAt.EqAt.int_int p t q u prog w _ _ ?_)
      refine PySem.W.kat_go (fun e1 => PySem.W.kat_yes ?_) (fun e1 => PySem.W.kat_no ?_)
      · have e : p = q := by simpa using e1
        refine ih (i + 1) hy ?_
        have h : Q (if p = q then lexZ ltI fin ns ms else ltI p q) s := h
        rwa [if_pos e] at h
      · have e : ¬ p = q := by simpa using e1
        have h : Q (if p = q then lexZ ltI fin ns ms else ltI p q) s := h
        rw [if_neg e] at h
        exact TS.oneLt_ints _ h
/-- values that are tuples of ints, one by one -/
inductive TupsAre (h : Heap) : List Value → List (List Int) → Prop
  | nil : TupsAre h [] []
  | cons {v : Value} {vs : List Value} {k : List Int} {ks : List (List Int)} : TS.TupInts h v k → TupsAre h vs ks → TupsAre h (v :: vs) (k :: ks)
def intsD (ns : List Int) : PyData := .tuple (ns.map .int)
theorem intsD_lay (ns : List Int) : (intsD ns).canLay0 = true := by
  have h : ∀ ns : List Int, PyData.canLayAll0 (ns.map .int) = true := by
    intro ns
    induction ns with
    | nil => simp [PyData.canLayAll0]
    | cons n ns ih => simp [PyData.canLayAll0, PyData.canLay0, ih]
  simp [intsD, PyData.canLay0, h]
theorem ints_depth : ∀ ns : List Int, PyData.depthAll (ns.map .int) = 0
  | [] => by simp [PyData.depthAll]
  | n :: ns => by simp [PyData.depthAll, PyData.depth, ints_depth ns]
theorem intsD_depth (ns : List Int) : (intsD ns).depth ≤ 1 := by simp [intsD, PyData.depth, ints_depth]
theorem intsD_eqv (ns ms : List Int) : PyData.eqv (intsD ns) (intsD ms) = decide (ns = ms) := by
  have h : ∀ ns ms : List Int, PyData.eqvAll (ns.map .int) (ms.map .int) = decide (ns = ms) := by
    intro ns
    induction ns with
    | nil =>
      intro ms
      cases ms <;> simp [PyData.eqvAll]
    | cons n ns ih =>
      intro ms
      cases ms with
      | nil => simp [PyData.eqvAll]
      | cons m ms =>
        simp only [List.map_cons, PyData.eqvAll, PyData.eqv, ih]
        by_cases e : n = m <;> simp [e]
  simp only [intsD, PyData.eqv, h]
theorem reads_ints {h : Heap} : ∀ {vs : List Value} {ns : List Int}, IntsAre vs ns → ReadsAll h vs (ns.map .int) []
  | _, _, .nil => .nil
  | _, _, .cons n t r => .cons (.int n t) (reads_ints r)
theorem tup_reads {h : Heap} {v : Value} {ns : List Int} (x : TS.TupInts h v ns) : Reads h v (intsD ns) [] := by
  obtain ⟨a, xs, rfl, ⟨o, ho, hc, n, hd⟩, i⟩ := x
  exact .tuple ho hc hd (reads_ints i)
theorem tup_eqAt {v u : Value} {ns ms : List Int} (hv : TS.TupInts s.heap v ns) (hu : TS.TupInts s.heap u ms) (hr : A.units + 1 < cLine) : SeqAt.EqAt A s v u (decide (ns = ms)) := by
  rw [← intsD_eqv]
  refine SeqAt.eqAt_reads (intsD ns) (intsD ms) A s v u _ _ (tup_reads hv) (tup_reads hu) (intsD_lay ns) (intsD_lay ms) ?_
  have h1 := intsD_depth ns
  have h2 : min (intsD ns).depth (intsD ms).depth ≤ (intsD ns).depth := Nat.min_le_left _ _
  omega
theorem lexT_run {fin : Bool} {xs ys : List Value} {ns ms : List (List Int)} (hr : A.units + 1 < cLine) (i : Nat) (hx : TupsAre s.heap xs ns) (hy : TupsAre s.heap ys ms) (h : Q (lexZ ltL fin ns ms) s) : PySem.W.KatLex prog w A false fin Q (xs.zip ys) i s := by
  induction hx generalizing ys ms i with
  | nil =>
    have h : Q fin s := h
    rw [List.zip_nil_left]
    exact PySem.W.kat_nil h
  | @cons v xs p ns hv hx ih =>
    cases hy with
    | nil =>
      rw [List.zip_nil_right]
      exact PySem.W.kat_nil h
    | @cons u ys q ms hu hy =>
      rw [List.zip_cons_cons]
      refine PySem.W.kat_cons (tup_eqAt hv hu hr prog w _ _ ?_)
      refine PySem.W.kat_go (fun e1 => PySem.W.kat_yes ?_) (fun e1 => PySem.W.kat_no ?_)
      · have e : p = q := of_decide_eq_true e1
        refine ih (i + 1) hy ?_
        have h : Q (if p = q then lexZ ltL fin ns ms else ltL p q) s := h
        rwa [if_pos e] at h
      · have e : ¬ p = q := of_decide_eq_false e1
        have h : Q (if p = q then lexZ ltL fin ns ms else ltL p q) s := h
        rw [if_neg e] at h
        obtain ⟨a, x1, rfl, t1, i1⟩ := hv
        obtain ⟨b, x2, rfl, t2, i2⟩ := hu
        refine PySem.W.kat_one _ _ (HT.lt_tupInts t1 t2 i1 i2 (by omega) ?_)
        rw [lexLt_eq]
        exact h
/-- tuples of tuples of ints -/
def NTup (h : Heap) (v : Value) (ks : List (List Int)) : Prop := ∃ a xs, v = .ref a ∧ IsTup h a xs ∧ TupsAre h xs.toList ks
theorem TupsAre.keeps {h h' : Heap} {vs : List Value} {ks : List (List Int)} (x : TupsAre h vs ks) (k : ∀ b o, h.get? b = some o → o.cls = .type "tuple" → h'.get? b = some o) : TupsAre h' vs ks := by
  induction x with
  | nil => exact .nil
  | cons a b ih => exact .cons (a.keeps k) ih
theorem NTup.keeps {h h' : Heap} {v : Value} {ks : List (List Int)} (x : NTup h v ks) (k : ∀ b o, h.get? b = some o → o.cls = .type "tuple" → h'.get? b = some o) : NTup h' v ks := by
  obtain ⟨a, xs, e, ⟨o, ho, hc, hd⟩, i⟩ := x
  exact ⟨a, xs, e, ⟨o, k _ _ ho hc, hc, hd⟩, i.keeps k⟩
theorem TupsAre.len {h : Heap} {vs : List Value} {ks : List (List Int)} (x : TupsAre h vs ks) : vs.length = ks.length := by
  induction x with
  | nil => rfl
  | cons a b ih => simp [ih]
theorem cmp_T {vs : List Value} {k : Value → List Int} (hp : ∀ v ∈ vs, TS.TupInts s.heap v (k v)) : SrtO.Cmp prog w A s (tuples' true) (fun p => p.1 ∈ vs) (SrtO.lt2 fun v u => ltL (k v) (k u)) := by
  intro p q hm hm'
  have h1 := hp _ hm
  have h2 := hp _ hm'
  show wpAny (model prog w) A (keyLt' (tuples' true) p.1 q.1) (fun r s' => s' = s ∧ r = ltL (k p.1) (k q.1)) (fun _ _ => False) s
  generalize k p.1 = ns at h1 ⊢
  generalize k q.1 = ms at h2 ⊢
  obtain ⟨a, xs, e, ⟨o, ho, hc, n, hd⟩, i⟩ := h1
  obtain ⟨a', xs', e', ⟨o', ho', hc', n', hd'⟩, i'⟩ := h2
  rw [e, e']
  refine PySem.W.kat_lt ho hd ho' hd' (lexI_run 0 i i' ⟨rfl, ?_⟩)
  have z1 : xs.size = ns.length := by rw [← i.length]; simp
  have z2 : xs'.size = ms.length := by rw [← i'.length]; simp
  rw [z1, z2]
  exact lexZ_eq ltI ns ms
theorem cmp_N {vs : List Value} {k : Value → List (List Int)} (hr : A.units + 1 < cLine) (hp : ∀ v ∈ vs, NTup s.heap v (k v)) : SrtO.Cmp prog w A s (tuples' false) (fun p => p.1 ∈ vs) (SrtO.lt2 fun v u => ltLL (k v) (k u)) := by
  intro p q hm hm'
  have h1 := hp _ hm
  have h2 := hp _ hm'
  show wpAny (model prog w) A (keyLt' (tuples' false) p.1 q.1) (fun r s' => s' = s ∧ r = ltLL (k p.1) (k q.1)) (fun _ _ => False) s
  generalize k p.1 = ns at h1 ⊢
  generalize k q.1 = ms at h2 ⊢
  obtain ⟨a, xs, e, ⟨o, ho, hc, n, hd⟩, i⟩ := h1
  obtain ⟨a', xs', e', ⟨o', ho', hc', n', hd'⟩, i'⟩ := h2
  rw [e, e']
  refine PySem.W.kat_lt ho hd ho' hd' (lexT_run hr 0 i i' ⟨rfl, ?_⟩)
  have z1 : xs.size = ns.length := by rw [← i.len]; simp
  have z2 : xs'.size = ms.length := by rw [← i'.len]; simp
  rw [z1, z2]
  exact lexZ_eq ltL ns ms
/-! the first items -/
theorem first_T {h : Heap} {k : Value → List Int} : ∀ {vs : List Value}, (∀ v ∈ vs, TS.TupInts h v (k v) ∧ k v ≠ []) → ∃ fs : List Value, PySem.W.KatTups h vs fs ∧ fs.length = vs.length ∧ ∀ f ∈ fs, ∃ x t, f = Value.int x t
  | [], _ => ⟨[], PySem.W.KatTups.nil, rfl, fun _ hm => by simp at hm⟩
  | v :: vs, hp => by
    obtain ⟨fs, h1, h2, h3⟩ := first_T (vs := vs) fun v' hm => hp v' (List.mem_cons_of_mem _ hm)
    obtain ⟨⟨a, xs, e, ⟨o, ho, hc, n, hd⟩, i⟩, hne⟩ := hp v (List.mem_cons_self ..)
    subst e
    have hz : xs.toList.length = (k (Value.ref a)).length := i.length
    obtain ⟨y, ys, ey⟩ : ∃ y ys, xs.toList = y :: ys := by
      cases q : xs.toList with
      | nil =>
        rw [q] at hz
        exact absurd (List.length_eq_zero_iff.mp hz.symm) hne
      | cons y ys => exact ⟨y, ys, rfl⟩
    obtain ⟨m, t, hy⟩ := i.all y (by rw [ey]; exact List.mem_cons_self ..)
    have e0 : xs[0]? = some y := by rw [← Array.getElem?_toList, ey]; rfl
    refine ⟨y :: fs, PySem.W.KatTups.cons ho hc hd e0 h1, by rw [List.length_cons, List.length_cons, h2], fun f hm => ?_⟩
    rcases List.mem_cons.mp hm with z | hm
    · rw [z]
      exact ⟨m, t, hy⟩
    · exact h3 f hm
theorem first_N {h : Heap} {k : Value → List (List Int)} : ∀ {vs : List Value}, (∀ v ∈ vs, NTup h v (k v) ∧ k v ≠ []) → ∃ fs : List Value, PySem.W.KatTups h vs fs ∧ fs.length = vs.length ∧ ∀ f ∈ fs, ∃ a o, f = Value.ref a ∧ h.get? a = some o ∧ o.cls = .type "tuple"
  | [], _ => ⟨[], PySem.W.KatTups.nil, rfl, fun _ hm => by simp at hm⟩
  | v :: vs, hp => by
    obtain ⟨fs, h1, h2, h3⟩ := first_N (vs := vs) fun v' hm => hp v' (List.mem_cons_of_mem _ hm)
    obtain ⟨⟨a, xs, e, ⟨o, ho, hc, n, hd⟩, i⟩, hne⟩ := hp v (List.mem_cons_self ..)
    subst e
    have hz : xs.toList.length = (k (Value.ref a)).length := i.len
    obtain ⟨y, ys, ey⟩ : ∃ y ys, xs.toList = y :: ys := by
      cases q : xs.toList with
      | nil =>
        rw [q] at hz
        exact absurd (List.length_eq_zero_iff.mp hz.symm) hne
      | cons y ys => exact ⟨y, ys, rfl⟩
    have e0 : xs[0]? = some y := by rw [← Array.getElem?_toList, ey]; rfl
    rw [ey] at i
    generalize k (Value.ref a) = kk at i
    cases i with
    | cons hy _ =>
      obtain ⟨b, ys', rfl, ⟨o2, ho2, hc2, _⟩, _⟩ := hy
      refine ⟨Value.ref b :: fs, PySem.W.KatTups.cons ho hc hd e0 h1, by rw [List.length_cons, List.length_cons, h2], fun f hm => ?_⟩
      rcases List.mem_cons.mp hm with z | hm
      · rw [z]
        exact ⟨b, o2, rfl, ho2, hc2⟩
      · exact h3 f hm
theorem sortable_T {a : Addr} {vs : List Value} {k : Value → List Int} (h0 : 0 < vs.length) (hp : ∀ v ∈ vs, TS.TupInts s.heap v (k v) ∧ k v ≠ []) (ha : ∀ o, s.heap.get? a = some o → o.cls ≠ .type "tuple") : SrtO.SortableO prog w A s a vs fun v u => ltL (k v) (k u) := by
  intro h' keep
  have kp : ∀ b o, s.heap.get? b = some o → o.cls = .type "tuple" → h'.get? b = some o := fun b o e c => keep b o (fun z => by subst z; exact ha o e c) e
  have hp' : ∀ v ∈ vs, TS.TupInts h' v (k v) ∧ k v ≠ [] := fun v hm => ⟨(hp v hm).1.keeps kp, (hp v hm).2⟩
  obtain ⟨fs, h1, h2, h3⟩ := first_T hp'
  refine ⟨tuples' true, fun Q E hq => ?_, cmp_T fun v hm => (hp' v hm).1⟩
  refine PySem.W.kat_kind (T := .type "int") h1 (by omega) (fun f hm => ?_) (by rfl) ?_
  · obtain ⟨x, t, rfl⟩ := h3 f hm
    exact PySem.W.Looks.now
  · have e : (Value.type "int" != Value.type "tuple") = true := by first | decide +kernel | rfl | decide
    rw [e]
    exact hq
theorem sortable_N {a : Addr} {vs : List Value} {k : Value → List (List Int)} (hr : A.units + 1 < cLine) (h0 : 0 < vs.length) (hp : ∀ v ∈ vs, NTup s.heap v (k v) ∧ k v ≠ []) (ha : ∀ o, s.heap.get? a = some o → o.cls ≠ .type "tuple") : SrtO.SortableO prog w A s a vs fun v u => ltLL (k v) (k u) := by
  intro h' keep
  have kp : ∀ b o, s.heap.get? b = some o → o.cls = .type "tuple" → h'.get? b = some o := fun b o e c => keep b o (fun z => by subst z; exact ha o e c) e
  have hp' : ∀ v ∈ vs, NTup h' v (k v) ∧ k v ≠ [] := fun v hm => ⟨(hp v hm).1.keeps kp, (hp v hm).2⟩
  obtain ⟨fs, h1, h2, h3⟩ := first_N hp'
  refine ⟨tuples' false, fun Q E hq => ?_, cmp_N hr fun v hm => (hp' v hm).1⟩
  refine PySem.W.kat_kind (T := .type "tuple") h1 (by omega) (fun f hm => ?_) (by rfl) ?_
  · obtain ⟨x, o, rfl, ho, hc⟩ := h3 f hm
    have q : PySem.W.Looks (model prog w) h' (typeOf (.ref x)) o.cls := (PySem.W.Looks.ld ho).andThen .now
    rw [hc] at q
    exact q
  · have e : (Value.type "tuple" != Value.type "tuple") = false := by first | decide +kernel | rfl | decide
    rw [e]
    exact hq
/-! ### sorted of what is collected -/
/-- what is asked of the collected values: sortable wherever the tuples stand -/
def SrtAsk (prog : Program) (w : World) (A : Around) (h : Heap) (vs : List Value) (ltv : Value → Value → Bool) : Prop :=
  2 ≤ vs.length → ∀ (s1 : Shared) (a : Addr), (∀ b o, h.get? b = some o → b ≠ a ∧ s1.heap.get? b = some o) → s1.heap.get? a = some (seqObj "list" vs.toArray 0) → SrtO.SortableO prog w A s1 a vs ltv
theorem sorted_gen {v : Value} {ltv : Value → Value → Bool} {Q : Value → Shared → Prop} (O : SrtO.Swo ltv)
    (hc : wpAny (model prog w) A.in1 (collect v) (fun vs s1 => s1.gens = s.gens ∧ s1.os = s.os ∧ s1.drawn = s.drawn ∧ vs.length ≤ sizeLine ∧ (∀ b o, s.heap.get? b = some o → s1.heap.get? b = some o) ∧ SrtAsk prog w A.in1.in1 s.heap vs ltv ∧
      ∀ (out : List Value) (h' : Heap) (d : Addr) (tk : Nat), SrtO.Srtd ltv out → SrtO.Stb ltv out vs → (∀ b o, s1.heap.get? b = some o → h'.get? b = some o) → s1.heap.objs.size ≤ d → (∃ n, h'.get? d = some (seqObj "list" out.toArray n)) → Q (.ref d) { s with heap := h', toks := tk }) E s) :
    wpAny (model prog w) A (call (.builtin "sorted") [v]) Q E s := by
  refine Calls.call_function_entry kind_sorted plain_sorted entry_sorted (args_sorted1 _) ?_
  unfold Builtin.«sorted»
  refine wpAny_bind (m := checkCount "sorted" 1 1 _) (wpAny_pure ?_)
  refine wpAny_bind (wpAny_mono hc (fun vs s1 h1 => ?_) fun _ _ e => e)
  obtain ⟨g1, o1, d1, hz, k1, ask, fin⟩ := h1
  refine wpAny_bind (wpAny_newList ?_ hz)
  have hoL : (s1.heap.push (seqObj "list" vs.toArray 0)).get? s1.heap.objs.size = some (seqObj "list" vs.toArray 0) := Heap.get?_push_size _ rfl
  have keep : ∀ b o, s.heap.get? b = some o → b ≠ s1.heap.objs.size ∧ (s1.heap.push (seqObj "list" vs.toArray 0)).get? b = some o := fun b o q =>
    ⟨Nat.ne_of_lt (Heap.lt_size (k1 b o q)), Heap.get?_push_of_some _ (k1 b o q)⟩
  refine wpAny_bind (wpAny_holding (wpAny_call_entry slot_list_sort ⟨_, hoL, rfl⟩ entry_list_sort (SrtO.list_sort_ord O hoL hz (fun h2 => ask h2 { s1 with heap := s1.heap.push (seqObj "list" vs.toArray 0) } _ keep hoL) fun out hs hb => ⟨_, rfl, ?_⟩) (args_list_sort _)))
  refine wpAny_pure ⟨_, rfl, ?_⟩
  obtain ⟨n, hn⟩ := sortedHeap_at (vs := vs) (out := out.toArray) hoL
  have e := fin out (sortedHeap (s1.heap.push (seqObj "list" vs.toArray 0)) s1.heap.objs.size vs out.toArray) s1.heap.objs.size s1.toks hs hb (fun b o q => by
    have hlt := Heap.lt_size q
    rw [sortedHeap_old (Nat.ne_of_lt hlt) (by rw [size_push']; exact Nat.lt_succ_of_lt hlt)]
    exact Heap.get?_push_of_some _ q) (Nat.le_refl _) ⟨n, hn⟩
  rw [← g1, ← o1, ← d1] at e
  exact e
end
end NB
set_option maxHeartbeats 2000000
/-! sorted of lists, tuples, dicts over the layer; a display of one pair whose key may be a tuple -/
namespace NB
open PySem PySem.Spec PyProof.Rows L2

def toV : Value → V
  | .ref a => .ref a
  | .int i _ => .int i
  | _ => .non
def plainV : V → Bool
  | .ref _ => true
  | .int _ => true
  | _ => false
theorem toV_rel {x : V} {u : Value} (hp : plainV x = true) (r : RelV x u) : toV u = x ∧ RelV (toV u) u := by
  cases x with
  | ref a =>
    obtain rfl : u = .ref a := r
    exact ⟨rfl, rfl⟩
  | int i =>
    obtain ⟨t, rfl⟩ := r
    exact ⟨rfl, t, rfl⟩
  | _ => cases hp
theorem toV_vals : ∀ {xs : List V} {us : List Value}, (∀ x ∈ xs, plainV x = true) → Vals xs us → us.map toV = xs ∧ ∀ u ∈ us, RelV (toV u) u
  | [], _, _, r => by
    cases r
    exact ⟨rfl, fun u hu => by simp at hu⟩
  | x :: xs, _, hp, r => by
    cases r with
    | cons h t =>
      obtain ⟨e1, e2⟩ := toV_rel (hp x List.mem_cons_self) h
      obtain ⟨e3, e4⟩ := toV_vals (fun y hy => hp y (List.mem_cons_of_mem _ hy)) t
      refine ⟨by rw [List.map_cons, e1, e3], fun u hu => ?_⟩
      rcases List.mem_cons.mp hu with z | z
      · rw [z]; exact e2
      · exact e4 u z
theorem vals_toV : ∀ {us : List Value}, (∀ u ∈ us, RelV (toV u) u) → Vals (us.map toV) us
  | [], _ => .nil
  | u :: us, h => .cons (h u List.mem_cons_self) (vals_toV fun y hy => h y (List.mem_cons_of_mem _ hy))
section
variable {X : Cx} {pins : List (Addr × Obj)} {σ : L2.St} {H : Hp} {s : Shared}
/-- collecting u gives xs -/
def Colls (X : Cx) (s : Shared) (u : Value) (xs : List V) : Prop :=
  ∀ (R : List Value → Shared → Prop), (∀ (us : List Value) (h' : Heap) (tk : Nat), Vals xs us → (∀ b o, s.heap.get? b = some o → h'.get? b = some o) → R us { s with heap := h', toks := tk }) → wpAny (model X.prog X.w) X.A.in1 (collect u) R X.xe s
theorem sorted_V {κ : Type} {lt : κ → κ → Bool} (O : Sto lt) (kv : V → κ) {u : Value} {xs : List V} {Q : VK} (I : Inv X pins σ H s) (hx : ∀ x ∈ xs, plainV x = true) (hz : xs.length ≤ sizeLine)
    (col : Colls X s u xs)
    (ask : ∀ (us : List Value), Vals xs us → SrtAsk X.prog X.w X.A.in1.in1 s.heap us fun v v' => lt (kv (toV v)) (kv (toV v')))
    (q : ∀ (ys : List V) (p : Addr), ys.Perm xs → ys.Pairwise (fun x y => lt (kv y) (kv x) = false) → H p = none → Q (.ref p) (upd H p (.lst ys))) :
    wpAny (model X.prog X.w) X.A (call (.builtin "sorted") [u]) (EP X pins σ Q) X.xe s := by
  refine sorted_gen (O.swo fun v => kv (toV v)) (col _ fun us h' tk r k => ?_)
  obtain ⟨e1, e2⟩ := toV_vals hx r
  refine ⟨rfl, rfl, rfl, by rw [← r.length]; exact hz, k, ask us r, fun out h'' d tk' hs hb k2 hd ⟨n, ho⟩ => ?_⟩
  have hp := hb.perm
  have hrel : ∀ w ∈ out, RelV (toV w) w := fun w hw => e2 w (hp.mem_iff.mp hw)
  have pm : (out.map toV).Perm xs := by
    rw [← e1]
    exact hp.map toV
  have I1 : Inv X pins σ H { s with heap := h', toks := tk } := I.kept k
  refine ⟨.ref d, upd H d (.lst (out.map toV)), I1.laid (t' := tk') k2 hd (show ObjOk X.prog X.w _ _ _ (.lst (out.map toV)) from ⟨?_, out, n, vals_toV hrel, ho⟩), rfl, q _ d pm ?_ (I1.hok.fresh hd)⟩
  · rw [pm.length_eq]
    exact hz
  · exact List.pairwise_map.mpr (hs.imp fun h => h)
/-! what is collected -/
theorem col_list {a : Addr} {xs : List V} (I : Inv X pins σ H s) (h : SqL X.K H a xs) : Colls X s (.ref a) xs := fun R k => by
  obtain ⟨its, rv, hl, hz⟩ := I.list h
  obtain ⟨o, ho, hc, n, hd⟩ := hl.isList
  refine wpAny_collect_seq a (.inl rfl) ho hc hd (fun h' kp => ?_) (by rw [List.size_toArray, ← rv.length]; exact hz)
  exact k its h' s.toks rv kp
theorem col_tup {a : Addr} {xs : List V} (I : Inv X pins σ H s) (h : SqT X.K H a xs) : Colls X s (.ref a) xs := fun R k => by
  obtain ⟨its, rv, ⟨o, ho, hc, n, hd⟩, hz⟩ := I.tuple h
  refine wpAny_collect_seq a (.inr rfl) ho hc hd (fun h' kp => ?_) (by rw [List.size_toArray, ← rv.length]; exact hz)
  exact k its h' s.toks rv kp
theorem col_dK {a : Addr} {kvs : List (Key × V)} (hc : X.calm = true) (I : Inv X pins σ H s) (h : H a = some (.dK kvs)) : Colls X s (.ref a) (kvs.map fun kv => kV kv.1) := fun R k => by
  obtain ⟨z, lo, vs, rk, hd⟩ := dk_of I.hok h
  obtain ⟨ep, hat⟩ := hd.dictAt
  have hl : kvs.length = vs.length := Paired.length rk
  refine PySem.W.kdu_collect (PySem.W.kdl_dict (knd := mixKind X.prog X.w) (kvs := vs) (ep := ep) lo) (I.ok.hd hc) hat (by rw [← hl]; exact z) fun h' tk acc kp hacc => k acc.toList h' tk ?_ kp
  have el : acc.toList.length = acc.size := by simp
  refine vals_of_at (by rw [List.length_map, el, hacc.1, hl]) fun j x w h1 h2 => ?_
  obtain ⟨kk, y, hky, hi⟩ := hacc.2 j w (by rw [← Array.getElem?_toList]; exact h2)
  have e1 : (kvs.map (·.1))[j]? = some kk := by
    rw [KV.keys rk, List.getElem?_map, hky]
    rfl
  rw [List.getElem?_map] at h1 e1
  obtain ⟨p, hp, ep⟩ := Option.map_eq_some_iff.mp h1
  rw [hp] at e1
  cases Option.some.inj e1
  rw [← ep]
  exact keyIs_rel hi
end
/-! ### a dict whose keys are tuples (of any make), whose values are True -/
abbrev KA := List (List Key × Addr)
def rowsX (xs : KA) : List (List Key × Addr × Value) := xs.map fun x => (x.1, x.2, .bool true)
def DicP (P : Program) (w : World) (p : Addr) (xs : KA) (h : Heap) : Prop :=
  (p == sysModules) = false ∧ xs.length ≤ sizeLine ∧ ∃ o es ep, h.get? p = some o ∧ o.ExactDict ∧ o.data = .dict es ep ∧ es.toList = (rowsX xs).map (entryOfKey (tupleKind (mixKind P w))) ∧ (xs.map (·.1)).Nodup
def DicO (P : Program) (w : World) (p : Addr) (xs : KA) : HO := .ext (DicP P w p xs)
theorem dicO_ne {P : Program} {w : World} {p : Addr} {xs : KA} (c : Addr) (q : Str) : DicO P w p xs ≠ LamX.CodeO c q := fun z => by
  have e : DicP P w p xs = fun h => ∃ (oc : Obj) (vs : Array Value) (t : Tok), h.get? c = some oc ∧ oc.data = .fields vs ∧ vs[1]? = some (.str q t) := by
    unfold DicO LamX.CodeO at z
    exact HO.ext.inj z
  have key : ∀ h : Heap, (∃ (oc : Obj) (vs : Array Value) (t : Tok), h.get? c = some oc ∧ oc.data = .fields vs ∧ vs[1]? = some (.str q t)) → ∃ o es ep, h.get? p = some o ∧ o.data = Data.dict es ep := fun h hh => by
    have k := congrFun e h
    have k2 : DicP P w p xs h := by
      rw [k]
      exact hh
    obtain ⟨_, _, o, es, ep, h1, _, h2, _⟩ := k2
    exact ⟨o, es, ep, h1, h2⟩
  have hs : ∃ h : Heap, h.get? c = some ({ cls := .none, data := .fields #[.none, .str q 0] } : Obj) ∧ ∀ o, h.get? p = some o → o.data = .fields #[.none, .str q 0] := by
    refine ⟨{ objs := Array.replicate (c + p + 1) { cls := .none, data := .fields #[.none, .str q 0] } }, ?_, fun o ho => ?_⟩
    · unfold Heap.get?
      rw [Array.getElem?_replicate, if_pos (Nat.lt_succ_of_le (Nat.le_add_right c p))]
    · unfold Heap.get? at ho
      rw [Array.getElem?_replicate, if_pos (Nat.lt_succ_of_le (Nat.le_add_left p c))] at ho
      cases ho
      rfl
  obtain ⟨h, h1, h2⟩ := hs
  obtain ⟨o, es, ep, h3, h4⟩ := key h ⟨_, _, 0, h1, rfl, rfl⟩
  rw [h2 o h3] at h4
  cases h4
/-- its keys stand -/
def KeysAt (H : Hp) (xs : KA) : Prop := ∀ x ∈ xs, Rd H x.2 (.tup (x.1.map kV))
section
variable {X : Cx} {pins : List (Addr × Obj)} {σ : L2.St} {H : Hp} {s : Shared} {p b : Addr} {xs : KA} {k : List Key}
theorem key_rd (I : Inv X pins σ H s) (e : Rd H b (.tup (k.map kV))) : (tupleKind (mixKind X.prog X.w)).is s.heap k b := by
  obtain ⟨_, its, r, o, h1, h2, n, h3⟩ := (show ObjOk X.prog X.w H s.heap b (.tup (k.map kV)) from rd_of I.hok e)
  exact ⟨o, its.toArray, n, h1, h2, h3, by simpa using items_are r⟩
theorem dic_at (I : Inv X pins σ H s) (h : H p = some (DicO X.prog X.w p xs)) (ks : KeysAt H xs) : (p == sysModules) = false ∧ xs.length ≤ sizeLine ∧ s.heap.DictOfH (tupleKind (mixKind X.prog X.w)) p (rowsX xs) := by
  obtain ⟨⟨lo, hz, o, es, ep, h1, h2, h3, h4, h5⟩, _, _⟩ := I.hok p _ h
  refine ⟨lo, hz, o, es, ep, h1, h2, h3, h4, fun x hx => ?_, ?_⟩
  · obtain ⟨y, hy, e⟩ := List.mem_map.mp hx
    rw [← e]
    exact key_rd I (ks y hy)
  · unfold rowsX
    rw [List.map_map]
    exact h5
theorem dic_new {P : Program} {w : World} {H' : Hp} {h' : Heap} (lo : (p == sysModules) = false) (hz : xs.length ≤ sizeLine) (dd : h'.DictOfH (tupleKind (mixKind P w)) p (rowsX xs)) : ObjOk P w H' h' p (DicO P w p xs) := by
  obtain ⟨o, es, ep, h1, h2, h3, h4, _, h5⟩ := dd
  have q : DicP P w p xs h' := ⟨lo, hz, o, es, ep, h1, h2, h3, h4, by
    unfold rowsX at h5
    rwa [List.map_map] at h5⟩
  refine ⟨q, ⟨o, h1⟩, fun g1 g2 ⟨_, _, o1, e1, p1, a1, a2, a3, a4, a5⟩ st => ⟨lo, hz, o1, e1, p1, st _ a1, a2, a3, a4, a5⟩⟩
def memK (xs : KA) (k : List Key) : Bool := xs.any fun x => decide (x.1 = k)
theorem atKey_rows (xs : KA) (k : List Key) : (atKey (rowsX xs) k).isSome = memK xs k := by
  induction xs with
  | nil => rfl
  | cons x xs ih =>
    unfold rowsX atKey memK at ih ⊢
    rw [List.map_cons, List.find?_cons, List.any_cons]
    by_cases e : x.1 = k
    · simp [e]
    · simp only [e, decide_false, Bool.false_or]
      exact ih
theorem storedH_rows (xs : KA) (k : List Key) (b : Addr) (h : memK xs k = false) : storedH (rowsX xs) k b (.bool true) = rowsX (xs ++ [(k, b)]) := by
  have e : (atKey (rowsX xs) k).isSome = false := by
    rw [atKey_rows]
    exact h
  unfold storedH
  rw [if_neg (by rw [e]; decide)]
  unfold rowsX
  rw [List.map_append]
  rfl
theorem col_X (hc : X.calm = true) (I : Inv X pins σ H s) (h : H p = some (DicO X.prog X.w p xs)) : Colls X s (.ref p) (xs.map fun x => V.ref x.2) := fun R k => by
  obtain ⟨⟨lo, hz, o, es, ep, ho, hx, hdt, he, hn⟩, _, _⟩ := I.hok p _ h
  have l1 : es.size = xs.length := by
    have q := size_of_entries he
    rw [q]
    exact List.length_map _
  refine PySem.W.kdu_collect (kdl_raw lo hx hdt) (I.ok.hd hc) ho (by omega) fun h' tk acc kp it => k acc.toList h' tk ?_ kp
  have el : acc.toList.length = acc.size := by simp
  refine vals_of_at (by rw [List.length_map, el, it.1, l1]) fun j x w h1 h2 => ?_
  obtain ⟨en, hen, ew⟩ := it.2 j w (by rw [← Array.getElem?_toList]; exact h2)
  subst ew
  have e3 : ((rowsX xs).map (entryOfKey (tupleKind (mixKind X.prog X.w))))[j]? = some en := by
    rw [← he, Array.getElem?_toList]
    exact hen
  unfold rowsX at e3
  rw [List.getElem?_map, List.getElem?_map] at e3
  rw [List.getElem?_map] at h1
  obtain ⟨y, hy, e4⟩ := Option.map_eq_some_iff.mp h1
  rw [hy] at e3
  have e3 := Option.some.inj e3
  rw [← e4, ← e3]
  rfl
end
/-! ### the keys of sorting -/
def kvI : V → Int
  | .int i => i
  | _ => 0
def tupAt (H : Hp) (a : Addr) : List V := match H a with
  | some (.tup xs) => xs
  | some (.frz _ (.tup xs)) => xs
  | _ => []
theorem tupAt_rd {H : Hp} {a : Addr} {xs : List V} (h : Rd H a (.tup xs)) : tupAt H a = xs := by
  unfold tupAt
  rcases h with h | ⟨o, h⟩ <;> rw [h]
def kvT (H : Hp) : V → List Int
  | .ref a => (tupAt H a).map kvI
  | _ => []
def kvN (H : Hp) : V → List (List Int)
  | .ref a => (tupAt H a).map (kvT H)
  | _ => []
theorem kvI_ints (ns : List Int) : (ns.map V.int).map kvI = ns := by
  rw [List.map_map]
  exact List.map_id ns
theorem kvT_at {H : Hp} {a : Addr} {ns : List Int} (h : Rd H a (.tup (ns.map V.int))) : kvT H (.ref a) = ns := by
  show (tupAt H a).map kvI = ns
  rw [tupAt_rd h]
  exact kvI_ints ns
/-- tuples of ints, none empty -/
def TupsV (H : Hp) (xs : List V) : Prop := ∀ x ∈ xs, ∃ b ns, x = .ref b ∧ Rd H b (.tup (ns.map V.int)) ∧ ns ≠ []
def NupsV (H : Hp) (xs : List V) : Prop := ∀ x ∈ xs, ∃ b us, x = .ref b ∧ Rd H b (.tup us) ∧ us ≠ [] ∧ TupsV H us
section
variable {X : Cx} {pins : List (Addr × Obj)} {σ : L2.St} {H : Hp} {s : Shared}
theorem ask_I {ns : List Int} {us : List Value} {A : Around} (r : Vals (ns.map V.int) us) : SrtAsk X.prog X.w A s.heap us fun v v' => ltI (kvI (toV v)) (kvI (toV v')) := by
  have e : (fun v v' : Value => ltI (kvI (toV v)) (kvI (toV v'))) = SrtO.ltIv := by
    have e1 : ∀ v : Value, kvI (toV v) = SrtO.iv v := fun v => by cases v <;> rfl
    funext v v'
    show decide (kvI (toV v) < kvI (toV v')) = decide (SrtO.iv v < SrtO.iv v')
    rw [e1, e1]
  intro h2 s1 a k ha
  rw [e]
  exact SrtO.ints_sortable r.ints h2
theorem vals_ref_of {xs : List V} {us : List Value} (r : Vals xs us) : ∀ u ∈ us, ∃ x ∈ xs, RelV x u := by
  induction r with
  | nil => intro u hu; simp at hu
  | cons h t ih =>
    intro u hu
    rcases List.mem_cons.mp hu with e | hu
    · rw [e]; exact ⟨_, List.mem_cons_self, h⟩
    · obtain ⟨x, h1, h2⟩ := ih u hu
      exact ⟨x, List.mem_cons_of_mem _ h1, h2⟩
theorem not_tup {s1 : Shared} {a : Addr} {us : List Value} (ha : s1.heap.get? a = some (seqObj "list" us.toArray 0)) : ∀ o, s1.heap.get? a = some o → o.cls ≠ .type "tuple" := fun o e => by
  rw [ha] at e
  cases e
  show Value.type "list" ≠ .type "tuple"
  decide +kernel
theorem ask_T {xs : List V} {us : List Value} {A : Around} (I : Inv X pins σ H s) (hx : TupsV H xs) (r : Vals xs us) : SrtAsk X.prog X.w A s.heap us fun v v' => ltL (kvT H (toV v)) (kvT H (toV v')) := by
  intro h2 s1 a k ha
  refine sortable_T (k := fun v => kvT H (toV v)) (by omega) (fun u hu => ?_) (not_tup ha)
  obtain ⟨x, hxm, rx⟩ := vals_ref_of r u hu
  obtain ⟨b, ns, rfl, hb, hne⟩ := hx x hxm
  obtain rfl : u = Value.ref b := rx
  have e : kvT H (toV (Value.ref b)) = ns := kvT_at hb
  show TS.TupInts s1.heap (.ref b) (kvT H (toV (Value.ref b))) ∧ _
  rw [e]
  exact ⟨(tupI_raw I (.inl hb)).keeps fun c o ho _ => (k c o ho).2, hne⟩
theorem tupsAre_of (I : Inv X pins σ H s) : ∀ {xs : List V} {us : List Value}, TupsV H xs → Vals xs us → TupsAre s.heap us (xs.map (kvT H))
  | [], _, _, r => by cases r; exact .nil
  | x :: xs, _, hx, r => by
    cases r with
    | cons h t =>
      obtain ⟨b, ns, e, hb, _⟩ := hx x List.mem_cons_self
      subst e
      cases h
      refine .cons ?_ (tupsAre_of I (fun y hy => hx y (List.mem_cons_of_mem _ hy)) t)
      rw [kvT_at hb]
      exact tupI_raw I (.inl hb)
theorem ask_N {xs : List V} {us : List Value} {A : Around} (hu : A.units + 1 < cLine) (I : Inv X pins σ H s) (hx : NupsV H xs) (r : Vals xs us) : SrtAsk X.prog X.w A s.heap us fun v v' => ltLL (kvN H (toV v)) (kvN H (toV v')) := by
  intro h2 s1 a k ha
  refine sortable_N (k := fun v => kvN H (toV v)) hu (by omega) (fun u hu => ?_) (not_tup ha)
  obtain ⟨x, hxm, rx⟩ := vals_ref_of r u hu
  obtain ⟨b, ws, rfl, hb, hne, hw⟩ := hx x hxm
  obtain rfl : u = Value.ref b := rx
  have e : kvN H (toV (Value.ref b)) = ws.map (kvT H) := by
    show (tupAt H b).map (kvT H) = _
    rw [tupAt_rd hb]
  show NTup s1.heap (.ref b) (kvN H (toV (Value.ref b))) ∧ kvN H (toV (Value.ref b)) ≠ []
  rw [e]
  obtain ⟨its, rv, hT, _⟩ := I.tuple (a := b) (xs := ws) (.inl hb)
  refine ⟨NTup.keeps ⟨b, its.toArray, rfl, hT, by simpa using tupsAre_of I hw rv⟩ fun c o ho _ => (k c o ho).2, fun z => hne (List.map_eq_nil_iff.mp z)⟩
end
/-! ### the rules -/
def rSrtI (K : PySem.W.Frag) : List V → Hp → VK → Prop := fun vs H Q => ∃ (a : Addr) (ns : List Int), vs = [.ref a] ∧ ns.length ≤ 1000 ∧
  (SqL K H a (ns.map V.int) ∨ SqT K H a (ns.map V.int) ∨ ∃ kvs : List (Key × V), H a = some (.dK kvs) ∧ kvs.map (fun kv => kV kv.1) = ns.map V.int) ∧
  ∀ (ns' : List Int) (p : Addr), ns'.Perm ns → ns'.Pairwise (· ≤ ·) → H p = none → Q (.ref p) (upd H p (.lst (ns'.map V.int)))
def rSrtT (K : PySem.W.Frag) (P : Program) (w : World) : List V → Hp → VK → Prop := fun vs H Q => ∃ a : Addr, vs = [.ref a] ∧
  ((∃ xs, SqL K H a xs ∧ xs.length ≤ 1000 ∧ TupsV H xs ∧ ∀ (ys : List V) (p : Addr), ys.Perm xs → ys.Pairwise (fun x y => ltL (kvT H y) (kvT H x) = false) → H p = none → Q (.ref p) (upd H p (.lst ys))) ∨
   ∃ xs : KA, H a = some (DicO P w a xs) ∧ KeysAt H xs ∧ xs.length ≤ 1000 ∧ (∀ x ∈ xs, ∃ ns : List Int, x.1 = ns.map Sum.inl ∧ ns ≠ []) ∧
     ∀ (ys : List V) (p : Addr), ys.Perm (xs.map fun x => V.ref x.2) → ys.Pairwise (fun x y => ltL (kvT H y) (kvT H x) = false) → H p = none → Q (.ref p) (upd H p (.lst ys)))
def rSrtN (K : PySem.W.Frag) : List V → Hp → VK → Prop := fun vs H Q => ∃ (a : Addr) (xs : List V), vs = [.ref a] ∧ SqL K H a xs ∧ xs.length ≤ 1000 ∧ NupsV H xs ∧ ∀ (ys : List V) (p : Addr), ys.Perm xs → H p = none → Q (.ref p) (upd H p (.lst ys))
theorem kv_inl (ns : List Int) : ((ns.map Sum.inl : List Key)).map kV = ns.map V.int := by
  rw [List.map_map]
  rfl
theorem keys_tups {H : Hp} {xs : KA} (h : KeysAt H xs) (hk : ∀ x ∈ xs, ∃ ns : List Int, x.1 = ns.map Sum.inl ∧ ns ≠ []) : TupsV H (xs.map fun x => V.ref x.2) := fun v hv => by
  obtain ⟨x, hx, e⟩ := List.mem_map.mp hv
  obtain ⟨ns, e1, e2⟩ := hk x hx
  refine ⟨x.2, ns, e.symm, ?_, e2⟩
  rw [← kv_inl, ← e1]
  exact h x hx
theorem tupsV_plain {H : Hp} {xs : List V} (h : TupsV H xs) : ∀ x ∈ xs, plainV x = true := fun x hx => by
  obtain ⟨b, ns, e, _⟩ := h x hx
  rw [e]
  rfl
theorem sz1000 {n : Nat} (h : n ≤ 1000) : n ≤ sizeLine := Nat.le_trans h (by decide)
section
variable {X : Cx}
theorem cr_srtI (hc : X.calm = true) : CallR X (.builtin "sorted") (rSrtI X.K) := by
  intro pins s σ H vs us Q I r h
  obtain ⟨a, ns, rfl, hz, hs, q⟩ := h
  rw [Vals.ref1 r]
  have col : Colls X s (.ref a) (ns.map V.int) := by
    rcases hs with h | h | ⟨kvs, h, e⟩
    · exact col_list I h
    · exact col_tup I h
    · rw [← e]
      exact col_dK hc I h
  refine sorted_V sto_int kvI I (fun x hx => ?_) (by rw [List.length_map]; exact sz1000 hz) col (fun us r => ask_I r) fun ys p pm pw hp => ?_
  · obtain ⟨n, _, e⟩ := List.mem_map.mp hx
    rw [← e]
    rfl
  · have e : (ys.map kvI).map V.int = ys := by
      rw [List.map_map]
      have : ∀ y ∈ ys, (V.int ∘ kvI) y = y := fun y hy => by
        obtain ⟨n, _, e⟩ := List.mem_map.mp (pm.mem_iff.mp hy)
        rw [← e]
        rfl
      rw [List.map_congr_left this]
      exact List.map_id' ys
    have q1 := q (ys.map kvI) p (by
      have h := pm.map kvI
      rwa [kvI_ints] at h) (List.pairwise_map.mpr (pw.imp fun {x y} h => by
        have h := of_decide_eq_false h
        omega)) hp
    rwa [e] at q1
theorem cr_srtT (hc : X.calm = true) : CallR X (.builtin "sorted") (rSrtT X.K X.prog X.w) := by
  intro pins s σ H vs us Q I r h
  obtain ⟨a, rfl, h⟩ := h
  rw [Vals.ref1 r]
  rcases h with ⟨xs, hx, hz, ht, q⟩ | ⟨xs, hd, hs, hz, hk, q⟩
  · exact sorted_V sto_L (kvT H) I (tupsV_plain ht) (sz1000 hz) (col_list I hx) (fun us r => ask_T I ht r) q
  · have ht := keys_tups hs hk
    exact sorted_V sto_L (kvT H) I (tupsV_plain ht) (by rw [List.length_map]; exact sz1000 hz) (col_X hc I hd) (fun us r => ask_T I ht r) q
theorem cr_srtN (hu : X.A.units + 64 < cLine) : CallR X (.builtin "sorted") (rSrtN X.K) := by
  intro pins s σ H vs us Q I r h
  obtain ⟨a, xs, rfl, hx, hz, ht, q⟩ := h
  rw [Vals.ref1 r]
  refine sorted_V sto_LL (kvN H) I (fun x hx => ?_) (sz1000 hz) (col_list I hx) (fun us r => ask_N (show X.A.units + 1 + 1 + 1 < cLine by omega) I ht r) fun ys p pm _ hp => q ys p pm hp
  obtain ⟨b, us, e, _⟩ := ht x hx
  rw [e]
  rfl
theorem CallR.or {f : Value} {r r' : List V → Hp → VK → Prop} (h : CallR X f r) (h' : CallR X f r') : CallR X f fun xs H Q => r xs H Q ∨ r' xs H Q := by
  intro pins s σ H xs us Q I rx q
  rcases q with q | q
  · exact h pins s σ H xs us Q I rx q
  · exact h' pins s σ H xs us Q I rx q
theorem PE.or {e : Expr} {t t' : TE} (h : PE X e t) (h' : PE X e t') : PE X e fun σ H Q => t σ H Q ∨ t' σ H Q :=
  ⟨fun pins s σ H Q I q => q.elim (h.run pins s σ H Q I) (h'.run pins s σ H Q I)⟩
/-! ### {k: True}, k a tuple; in, not in, d[k] = True, len, list -/
def tDisX (P : Program) (w : World) (tk : TE) : TE := fun σ H Q => ∀ p, H p = none → tk σ (upd H p (DicO P w p [])) fun x H1 => H1 p = some (DicO P w p []) ∧ ∃ b k, x = .ref b ∧ Rd H1 b (.tup (k.map kV)) ∧ Q (.ref p) (upd H1 p (DicO P w p [(k, b)]))
theorem pe_disX {k : Expr} {tk : TE} {pos pv : Pos} {j : Nat} (hu : X.A.units + 1 < cLine) (hk : PE X k tk) : PE X (.Dict [some k] [.Constant (.bool true) j pv] pos) (tDisX X.prog X.w tk) := by
  refine ⟨fun pins s σ H Q I q => ?_⟩
  have lo : (s.heap.objs.size == sysModules) = false := beq_eq_false_iff_ne.mpr (Ne.symm (Nat.ne_of_lt I.big))
  have I1 := I.laid (a := s.heap.objs.size) (o := DicO X.prog X.w s.heap.objs.size []) (h' := s.heap.push { cls := .type "dict", data := .dict #[] }) (t' := s.toks) (fun _ _ q => Heap.get?_push_of_some _ q) (Nat.le_refl _)
    (dic_new lo (Nat.zero_le _) ⟨_, #[], 0, Heap.get?_push_size _ rfl, ⟨rfl, rfl, rfl⟩, rfl, rfl, (fun x hx => by simp [rowsX] at hx), List.nodup_nil⟩)
  have lp : (pairTrees [some k] [.Constant (.bool true) j pv] X.env pos).length = 1 := pairTrees_length [some k] [.Constant (.bool true) j pv] X.env pos rfl rfl
  show wpAny _ _ (eval (.Dict [some k] [.Constant (.bool true) j pv] pos) X.env) _ _ _
  rw [arm_eval_Dict, zip_pairTrees [some k] [.Constant (.bool true) j pv] X.env pos rfl rfl, dictDisplay_pairs (pairTrees [some k] [.Constant (.bool true) j pv] X.env pos) (fun z => by rw [z] at lp; cases lp) (by rw [lp]; decide)]
  refine wpAny_bind (wpAny_standAt (wpAny_bind (wpAny_subDictH (knd := tupleKind (mixKind X.prog X.w)) (show X.A.units < cLine by omega) (by rw [lp]; decide) ?_)))
  refine L2.thn ((pps_cons (trs := []) (pos := pos) hk (pe_bl (b := true)) pps_nil).run pins _ σ _ (fun ps H2 => match ps with
    | [(x, .bl true)] => H2 s.heap.objs.size = some (DicO X.prog X.w s.heap.objs.size []) ∧ ∃ b k, x = .ref b ∧ Rd H2 b (.tup (k.map kV)) ∧ Q (.ref s.heap.objs.size) (upd H2 s.heap.objs.size (DicO X.prog X.w s.heap.objs.size [(k, b)]))
    | _ => False) I1 (q _ (I.hok.fresh (Nat.le_refl _)))) fun ws s2 ⟨ps, H2, I2, rel, q2⟩ => ?_
  match ps, q2 with
  | [(x, .bl true)], ⟨e, b, kk, ex, hb, q3⟩ =>
    cases rel with
    | @cons p uv ps' ws' h t =>
      obtain ⟨u1, u2⟩ := uv
      cases t
      obtain ⟨rx, ry⟩ := h
      subst ex
      obtain rfl : u1 = Value.ref b := rx
      obtain rfl : u2 = Value.bool true := ry
      obtain ⟨_, z, dd⟩ := dic_at I2 e (fun x hx => by simp at hx)
      refine ⟨[(kk, b, .bool true)], ⟨rfl, rfl, key_rd I2 hb, trivial⟩, dd, fun h' tk dd' hs => wpAny_pure ⟨.ref s.heap.objs.size, _, ?_, rfl, q3⟩⟩
      have dd2 : h'.DictOfH (tupleKind (mixKind X.prog X.w)) s.heap.objs.size (rowsX [(kk, b)]) := dd'
      obtain ⟨o, _, _, ho, _⟩ := id dd2
      exact d_write I2 (by rw [e]; exact True.intro) hs ⟨o, ho⟩ (dic_new lo (show 1 ≤ sizeLine by decide) dd2)
def rNotInX (P : Program) (w : World) : R2 := fun y d H Q => ∃ b k a xs, y = .ref b ∧ d = .ref a ∧ Rd H b (.tup (k.map kV)) ∧ H a = some (DicO P w a xs) ∧ KeysAt H xs ∧ Q (.bl (!memK xs k)) H
theorem op_notInX (hu : X.A.units + 1 < cLine) : OpR X (compareOp .NotIn) (rNotInX X.prog X.w) := by
  intro pins s σ H x y v u Q I rx ry h
  obtain ⟨b, k, a, xs, rfl, rfl, hb, ha, hs, q⟩ := h
  cases rx
  cases ry
  obtain ⟨lo, _, dd⟩ := dic_at I ha hs
  refine wpAny_notIn_heap (tupleKind_room_in1 hu) (key_rd I hb) lo dd ?_
  rw [atKey_rows]
  exact ⟨.bl _, H, I.tok _, rfl, q⟩
def tSetX (P : Program) (w : World) : TSet := fun o i v H Q => ∃ a b k xs, o = .ref a ∧ i = .ref b ∧ v = .bl true ∧ Rd H b (.tup (k.map kV)) ∧ H a = some (DicO P w a xs) ∧ KeysAt H xs ∧ memK xs k = false ∧ xs.length < sizeLine ∧ Q (upd H a (DicO P w a (xs ++ [(k, b)])))
theorem set_X (hu : X.A.units + 1 < cLine) : PSet X (tSetX X.prog X.w) := by
  intro pins s σ H o i v ov iv u Q I ro ri rv h
  obtain ⟨a, b, k, xs, rfl, rfl, rfl, hb, ha, hs, hn, hz, q⟩ := h
  cases ro
  cases ri
  cases rv
  obtain ⟨lo, hz0, dd⟩ := dic_at I ha hs
  have lr : (rowsX xs).length ≤ sizeLine := by
    unfold rowsX
    rw [List.length_map]
    exact hz0
  refine wpAny_setItem_heap (hsz := lr) (tupleKind_room_in1 hu) (key_rd I hb) dd fun h' dd' hs' => ?_
  rw [storedH_rows xs k b hn] at dd'
  obtain ⟨ob, _, _, ho, _⟩ := id dd'
  exact ⟨_, d_write I (by rw [ha]; exact True.intro) hs' ⟨ob, ho⟩ (dic_new lo (by rw [List.length_append]; exact hz) dd'), q⟩
def tSetK : TSet := fun o i v H Q => ∃ a kvs k, o = .ref a ∧ i = kV k ∧ H a = some (.dK kvs) ∧ kvs.length < sizeLine ∧ Q (upd H a (.dK (putK kvs k v)))
theorem set_K (hu : X.A.units + 1 < cLine) : PSet X tSetK := by
  intro pins s σ H o i v ov iv u Q I ro ri rv h
  obtain ⟨a, kvs, k, rfl, rfl, ha, hz, q⟩ := h
  cases ro
  exact d_setItem hu I (DPut.k ha hz) ri rv fun s' J => ⟨_, J, q⟩
theorem PSet.or {t t' : TSet} (h : PSet X t) (h' : PSet X t') : PSet X fun o i v H Q => t o i v H Q ∨ t' o i v H Q := by
  intro pins s σ H o i v ov iv u Q I ro ri rv q
  rcases q with q | q
  · exact h pins s σ H o i v ov iv u Q I ro ri rv q
  · exact h' pins s σ H o i v ov iv u Q I ro ri rv q
def rLenX (P : Program) (w : World) : List V → Hp → VK → Prop := fun vs H Q => ∃ (p : Addr) (xs : KA), vs = [.ref p] ∧ H p = some (DicO P w p xs) ∧ KeysAt H xs ∧ Q (.int (xs.length : Nat)) H
theorem cr_lenX : CallR X (.builtin "len") (rLenX X.prog X.w) := by
  intro pins s σ H vs us Q I r h
  obtain ⟨p, xs, rfl, hp, hs, q⟩ := h
  obtain ⟨u, rfl, rx⟩ := vals1 r
  obtain rfl : u = .ref p := rx
  obtain ⟨lo, hz, dd⟩ := dic_at I hp hs
  have e : (rowsX xs).length = xs.length := List.length_map _
  refine call_len_dictH lo dd (by rw [e]; rw [sizeLine_eq] at hz; omega) ?_
  rw [e]
  exact ⟨.int (xs.length : Nat), H, I.tok _, ⟨_, rfl⟩, q⟩
def rLstX (P : Program) (w : World) : List V → Hp → VK → Prop := fun vs H Q => ∃ (p : Addr) (xs : KA), vs = [.ref p] ∧ H p = some (DicO P w p xs) ∧ ∀ q, H q = none → Q (.ref q) (upd H q (.lst (xs.map fun x => V.ref x.2)))
theorem cr_lstX (hc : X.calm = true) : CallR X (.type "list") (rLstX X.prog X.w) := by
  intro pins s σ H vs us Q I r h
  obtain ⟨p, xs, rfl, hp, q⟩ := h
  obtain ⟨u, rfl, rx⟩ := vals1 r
  obtain rfl : u = .ref p := rx
  obtain ⟨⟨lo, hz, o, es, ep, ho, hx, hdt, he, hn⟩, _, _⟩ := I.hok p _ hp
  have l1 : es.size = xs.length := by
    have q := size_of_entries he
    rw [q]
    exact List.length_map _
  refine PySem.W.kdl_call (kdl_raw lo hx hdt) (I.ok.hd hc) ho (by omega) fun h' tk acc c' kp e it => ?_
  refine ⟨.ref s.heap.objs.size, _, I.laid (t' := tk) (o := .lst (xs.map fun x => V.ref x.2)) kp (Nat.le_refl _) ⟨by rw [List.length_map]; exact hz, acc.toList, c', ?_, by rw [Array.toArray_toList]; exact e⟩, rfl, q _ (I.hok.fresh (Nat.le_refl _))⟩
  have el : acc.toList.length = acc.size := by simp
  refine vals_of_at (by rw [List.length_map, el, it.1, l1]) fun j x w h1 h2 => ?_
  obtain ⟨en, hen, ew⟩ := it.2 j w (by rw [← Array.getElem?_toList]; exact h2)
  subst ew
  have e3 : ((rowsX xs).map (entryOfKey (tupleKind (mixKind X.prog X.w))))[j]? = some en := by
    rw [← he, Array.getElem?_toList]
    exact hen
  unfold rowsX at e3
  rw [List.getElem?_map, List.getElem?_map] at e3
  rw [List.getElem?_map] at h1
  obtain ⟨y, hy, e4⟩ := Option.map_eq_some_iff.mp h1
  rw [hy] at e3
  have e3 := Option.some.inj e3
  rw [← e4, ← e3]
  rfl
end
end NB
set_option maxHeartbeats 2000000
/-! tuples whose object is known to have no dict (for t.index); what operators give on data -/
namespace NB
open PySem PySem.Spec PyProof.Rows L2
/-! ### tuples made by tuple(..), held with their object -/
def rTupF (K : PySem.W.Frag) : List V → Hp → VK → Prop := fun xs H Q => ∃ p ys, xs = [.ref p] ∧ SqL K H p ys ∧ ∀ l ob, H l = none → ob.dict = none → Q (.ref l) (upd H l (.frz ob (.tup ys)))
def tTupRF (te : L2.St → Hp → (Int → Int → Hp → Prop) → Prop) : TE := fun σ H Q => te σ H fun a b H1 => RgOk a b ∧ ∀ q ob, H1 q = none → ob.dict = none → Q (.ref q) (upd H1 q (.frz ob (.tup (rgV a b))))
section
variable {X : Cx}
theorem cr_tupF : CallR X (.type "tuple") (rTupF X.K) := by
  intro pins s σ H xs us Q I r h
  obtain ⟨p, ys, rfl, hq, q⟩ := h
  obtain ⟨u, rfl, rx⟩ := vals1 r
  cases rx
  obtain ⟨its, rv, pl, hz⟩ := I.list hq
  have hlen := rv.length
  refine call_tuple_list pl.isList (fun h' kp => ?_) (by simp only [List.size_toArray]; omega)
  have I1 : Inv X pins σ H { s with heap := h' } := I.kept (t' := s.toks) kp
  have g : (h'.push { cls := .type "tuple", data := .seq its.toArray }).get? h'.objs.size = some ({ cls := .type "tuple", data := .seq its.toArray } : Obj) := Heap.get?_push_size _ rfl
  exact ⟨.ref h'.objs.size, _, I1.laid (t' := s.toks) (o := .frz { cls := .type "tuple", data := .seq its.toArray } (.tup ys)) (fun b o e => Heap.get?_push_of_some _ e) (Nat.le_refl _) ⟨g, hz, its, rv, IsTup.new _ _⟩, rfl, q _ _ (I1.hok.fresh (Nat.le_refl _)) rfl⟩
theorem pe_tupRF {e : Expr} {te : L2.St → Hp → (Int → Int → Hp → Prop) → Prop} {p pos : Pos} (hc : X.calm = true) (hg : Gl X "tuple") (hm : X.mg "tuple" = none) (he : PRg X e te) (na : starEach [e] X.env = (false, eval e X.env) :: starEach [] X.env := by rfl) : PE X (.Call (.Name "tuple" p) [e] [] pos) (tTupRF te) := by
  refine ⟨fun pins s σ H Q I h => Call_ (ld_blt I hg hm boot_tuple (PyProof.Rows.callWith_type1 (args_cons (L2.thn (he pins s σ H _ I h) fun x s1 ⟨r, a, b, t, u, v, H1, ex, hr, I1, ok, q⟩ => args_nil ?_) na) na))⟩
  subst ex
  obtain ⟨b1, b2, b3, b4, b5⟩ := ok
  refine call_tuple_range (n := (b - a).toNat) (I1.ok.hd hc) hr (small_one b1 b2 b3 b4) (rangeSize_nat a b) b5 fun h' tk acc hk hi => ?_
  have I2 : Inv X pins σ H1 { s1 with heap := h', toks := tk } := I1.kept hk
  have g : (h'.push { cls := .type "tuple", data := .seq acc }).get? h'.objs.size = some ({ cls := .type "tuple", data := .seq acc } : Obj) := Heap.get?_push_size _ rfl
  refine ⟨.ref h'.objs.size, _, I2.laid (t' := tk) (o := .frz { cls := .type "tuple", data := .seq acc } (.tup (rgV a b))) (fun c o e => Heap.get?_push_of_some _ e) (Nat.le_refl _) ⟨g, ?_, acc.toList, vals_rg hi, ?_⟩, rfl, q _ _ (I2.hok.fresh (Nat.le_refl _)) rfl⟩
  · rw [rgV_length, sizeLine_eq]
    omega
  · rw [Array.toArray_toList]
    exact IsTup.new _ _
/-- t.index(k), ints -/
def rIndI (K : PySem.W.Frag) : V → List V → Hp → VK → Prop := fun x xs H Q => ∃ (p : Addr) (ns : List Int) (k : Int) (j : Nat), x = .ref p ∧ xs = [.int k] ∧ SqT K H p (ns.map V.int) ∧ ns[j]? = some k ∧ (∀ m, m < j → ns[m]? ≠ some k) ∧ Q (.int (j : Nat)) H
theorem mt_indI : MtR X "tuple.index" (rIndI X.K) := by
  intro pins s σ H x xs v us Q I rx rs h
  obtain ⟨p, ns, k, j, rfl, rfl, hq, hy, hno, q⟩ := h
  cases rx
  obtain ⟨u, rfl, t, rfl⟩ := vals1 rs
  obtain ⟨its, r, ⟨⟨c1, dd, c3, sl⟩, ho, hc, n, hd⟩, hz⟩ := I.tuple hq
  obtain rfl : c1 = .type "tuple" := hc
  obtain rfl : c3 = .seq its.toArray n := hd
  have hl : its.toArray.size = ns.length := by rw [List.size_toArray, ← r.length, List.length_map]
  have hj : j < its.toArray.size := by
    rw [hl]
    exact (List.getElem?_eq_some_iff.mp hy).1
  have at' : ∀ (m : Nat) (hm : m < its.toArray.size), ∃ y t', ns[m]? = some y ∧ its.toArray[m] = Value.int y t' := fun m hm => by
    have hm' : m < ns.length := by rw [← hl]; exact hm
    obtain ⟨w, hw, t', hw'⟩ := r.get (i := m) (x := .int ns[m]) (by simp [hm'])
    refine ⟨ns[m], t', List.getElem?_eq_getElem hm', ?_⟩
    have e := (List.getElem?_eq_some_iff.mp hw).2
    rw [← hw', ← e]
    simp
  refine call_meets PySem.F.slot_tuple_index ⟨_, ho, rfl⟩ PySem.F.entry_tuple_index (PySem.F.args_tuple_index_2 _ _) (TI.tuple_indexAt p its.toArray n dd sl (.int k t) (fun v => SrtO.iv v == k) j hj ?_ ?_) ⟨ho, fun w hw => ?_, ⟨.int (j : Nat), H, I.tok _, ⟨_, rfl⟩, q⟩⟩
  · obtain ⟨y, t', h1, h2⟩ := at' j hj
    rw [hy] at h1
    cases h1
    rw [h2]
    exact beq_self_eq_true k
  · intro m hm hmj
    obtain ⟨y, t', h1, h2⟩ := at' m hm
    rw [h2]
    exact beq_eq_false_iff_ne.mpr fun e => hno m hmj (by rw [h1]; exact congrArg some e)
  · obtain ⟨i, hi, e⟩ := Array.mem_iff_getElem.mp hw
    obtain ⟨y, t', h1, h2⟩ := at' i hi
    rw [← e, h2]
    exact SeqAt.EqAt.int_int y t' k t
def tIndF (K : PySem.W.Frag) (to : TE) (t : TA) : TE := fun σ H Q => to σ H fun x H1 => (∃ p ob xs, x = .ref p ∧ H1 p = some (.frz ob (.tup xs)) ∧ ob.dict = none) ∧ t σ H1 fun xs H2 => rIndI K x xs H2 Q
theorem pe_indF {o e : Expr} {es : List Expr} {to : TE} {t : TA} {apos cpos : Pos} (ho : PE X o to) (ha : PA X (e :: es) t) (hbase : attributeBase o "index" X.env (eval o X.env) = eval o X.env := by rfl)
    (hfew : ((backTo cpos (starEach (e :: es) X.env)).all (fun x => !x.1) && (backToKw cpos (keywordEach [] X.env)).all (fun x => x.1.isSome) && decide ((e :: es).length + ([] : List Keyword).length + (if ([] : List Keyword).isEmpty then 0 else 1) < 30)) = true := by rfl)
    (hline : (apos.endLine == cpos.line) = true := by rfl) (hs : starEach (e :: es) X.env = (false, eval e X.env) :: starEach es X.env := by rfl) (hplain : (backTo cpos (starEach es X.env)).any (·.1) = false := by rfl) :
    PE X (.Call (.Attribute o "index" apos) (e :: es) [] cpos) (tIndF X.K to t) := by
  refine ⟨fun pins s σ H Q I h => wpAny_Call_method_late hbase hfew hline rfl (L2.thn (ho.run pins s σ H _ I h) fun v s1 ⟨x, H1, I1, r1, ty, q1⟩ => ?_)⟩
  obtain ⟨p, ob, xs, rfl, hp, hd⟩ := ty
  have r2 : RelV (.ref p) v := r1
  cases r1
  obtain ⟨g, hz, its, rv, o2, g2, hc, _⟩ := (show ObjOk X.prog X.w H1 s1.heap p (.frz ob (.tup xs)) from I1.hok p _ hp)
  rw [g] at g2
  cases g2
  refine ⟨"tuple", "tuple.index", PySem.F.plainAttrs_tuple, PySem.F.slot_tuple_index, PySem.F.type_tuple_index, ⟨ob, g, hc⟩, fun a e => ?_, ?_⟩
  · cases e
    exact ⟨ob, g, hd⟩
  have hA := ha.run cpos pins s1 σ H1 _ I1 q1
  rw [hs] at hA ⊢
  refine Calls.callWith_builtin (by show (false || (backTo cpos (starEach es X.env)).any (·.1)) = false; rw [hplain]; rfl) (Calls.evalArgs_plain ?_)
  exact L2.thn hA fun us s2 ⟨vs, H2, I2, rs, q2⟩ => mt_indI pins s2 σ H2 (.ref p) vs (.ref p) us Q I2 rfl rs q2
end
end NB
set_option maxHeartbeats 2000000
/-! all(test for x in a tuple), where every test holds: the generator's own context, walked by the layer -/
namespace NB
open PySem PySem.Spec PyProof.Rows L2
open NdefX (slotAt clo_cm)

abbrev gEnv (X : Cx) (scope : Scope) (C : Addr) (code : Value) : PySem.Env := genEnv scope (cloFrom X.env.cells scope.names []) C code builtinsNs X.env
/-- the context of the generator's body; s1: the state ahead of it -/
def gcx (X : Cx) (A0 : Around) (s1 : Shared) (H1 : Hp) (N : List Str) (scope : Scope) (C : Addr) (code : Value) : Cx where
  prog := X.prog
  w := X.w
  K := X.K
  mg := X.mg
  base := X.base
  A := A0.deeper (gEnv X scope C code)
  N := N
  s_0 := s1
  H_0 := H1
  env := gEnv X scope C code
  outer := X.stack
  stack := gEnv X scope C code :: X.stack
  ex := []
  fn := fun _ => false
  calm := true
  pn := []
  xe := fun _ _ => False
structure GxS (sc scope : Scope) (x y : Str) : Prop where
  kind : scope.kind = .function
  co : scope.isCoroutine = false
  cell : ∀ z ∈ scope.names, z.2 ≠ .cell
  dot : scope.names.lookup (".0" : Str) = some NameKind.local
  loc : scope.names.lookup x = some .local
  cap : scope.names.lookup y = some .free
  ne : x ≠ y
  free : ∀ z ∈ scope.names, z.2 = .free → sc.names.lookup z.1 = some .cell ∨ sc.names.lookup z.1 = some .free
def gxsB (sc scope : Scope) (x y : Str) : Bool :=
  decide (scope.kind = .function) && !scope.isCoroutine && scope.names.all (fun z => !decide (z.2 = .cell)) && decide (scope.names.lookup (".0" : Str) = some NameKind.local) && decide (scope.names.lookup x = some .local) && decide (scope.names.lookup y = some .free) && !decide (x = y) &&
    scope.names.all fun z => !decide (z.2 = .free) || decide (sc.names.lookup z.1 = some .cell) || decide (sc.names.lookup z.1 = some .free)
theorem gxs_by {sc scope : Scope} {x y : Str} (h : gxsB sc scope x y = true) : GxS sc scope x y := by
  unfold gxsB at h
  simp only [Bool.and_eq_true, Bool.or_eq_true, Bool.not_eq_true', decide_eq_true_eq, decide_eq_false_iff_not, List.all_eq_true] at h
  obtain ⟨⟨⟨⟨⟨⟨⟨h1, h2⟩, h3⟩, h4⟩, h5⟩, h6⟩, h7⟩, h8⟩ := h
  refine ⟨h1, h2, h3, h4, h5, h6, h7, fun z hz e => ?_⟩
  rcases h8 z hz with (k | k) | k
  · exact absurd e k
  · exact .inl k
  · exact .inr k
theorem un_tab {fs : List Addr} {H : Hp} {h h5 : Heap} {P : Addr} {ps more : Array Value} (hP : H P = some (.tbl ps)) (k : ∀ b o, b ≠ P → h.get? b = some o → h5.get? b = some o) (hp : ∃ o, h5.get? P = some o) :
    Un fs [] H (upd H P (.tbl (ps ++ more))) h h5 := by
  have nP : ∀ b, H b = none → b ≠ P := fun b e z => by rw [z, hP] at e; cases e
  have nQ : ∀ b u, H b = some u → (∀ q, u ≠ .tbl q) → b ≠ P := fun b u e q z => by
    rw [z, hP] at e
    exact q ps (Option.some.inj e).symm
  refine ⟨fun b o e n _ _ => k b o (nP b n) e, fun b o e n _ _ => ⟨o.slots, k b o (nP b n) e⟩, fun b o e n _ => by rw [upd_ne (nP b n)]; exact n, fun b o e _ => ?_,
    fun b xs e => by rw [upd_ne (nQ b _ e fun q z => by cases z)]; exact e, fun b o u e => by rw [upd_ne (nQ b _ e fun q z => by cases z)]; exact e, fun b qs e => ?_⟩
  · by_cases hb : b = P
    · rw [hb]; exact hp
    · exact ⟨o, k b o hb e⟩
  · by_cases hb : b = P
    · rw [hb, hP] at e
      cases e
      rw [hb, upd_same]
      exact ⟨more, rfl⟩
    · rw [upd_ne hb]
      exact ⟨#[], by rw [e]; simp⟩
section
variable {X : Cx} {pins : List (Addr × Obj)} {σ : L2.St} {H H2 : Hp} {s s2 : Shared} {A0 : Around} {scope : Scope} {x y : Str} {j : Nat} {C : Addr} {code : Value}
theorem inv_startG {m : Str → Option Value} (I : Inv X pins σ H s) (S : GxS X.env.scope scope x y) (hj : X.N[j]? = some y) (hd : A0.handled = none) (hf : A0.frames = some X.stack) (os : s2.os = s.os) (bare : AllBare s2.gens)
    (un : Un (frs X.stack) [] H H2 s.heap s2.heap) (hok : HOk X.prog X.w H2 s2.heap) (hC : s.heap.objs.size ≤ C) (hC2 : H2 C = none) (hns : s2.heap.Ns C m) :
    Inv (gcx X A0 s H [x, y] scope C code) [] [none, slotAt σ j] H2 s2 := by
  have e0 := I.env0
  have hfree : ∀ z ∈ scope.names, z.2 = .free → ∃ c, X.env.cells.lookup z.1 = some c := fun z hz e => (S.free z hz e).elim (fun k => I.ok.has _ (.inl k)) fun k => I.ok.has _ (.inr k)
  have cm : ∀ {z c}, (cloFrom X.env.cells scope.names []).lookup z = some c → X.env.cells.lookup z = some c := fun e => clo_cm hfree e
  have look : ∀ {z}, scope.names.lookup z = some .free → ∃ c, (cloFrom X.env.cells scope.names []).lookup z = some c := fun {z} hl =>
    mem_lookup (cloFrom_has (cells := X.env.cells) (acc := []) (show (z, NameKind.free) ∈ scope.names from PySem.mem_of_lookup hl))
  have noA : ∀ b : Addr, b ∉ (gcx X A0 s H [x, y] scope C code).ex := fun b z => absurd (show b ∈ ([] : List Addr) from z) (by simp)
  have cellK : ∀ {c : Addr} {v : Option Value}, H c = none → s.heap.IsCell c v → s2.heap.IsCell c v := fun {c v} n ⟨o, ho, hd⟩ => by
    obtain ⟨sl, q⟩ := un.any ho n (by simp)
    exact ⟨_, q, hd⟩
  refine ⟨⟨e0.mod, S.kind, I.ok.glob, rfl, hC, fun a b c e1 e2 => I.ok.inj a b c (cm e1) (cm e2), fun z hz => ?_, fun z c q _ => (nomatch (show false = true from q)), fun _ => hd, Around.frames_deeper hf, .inr ⟨rfl, rfl⟩, fun b z => absurd z (noA b), e0.bs, e0.bsz, fun b _ _ => noA b,
      fun b z => absurd z (noA b), e0.funs, e0.frf⟩,
    os, bare, un, ⟨m, hns, fun i z v e1 e2 e3 => ?_⟩, fun z c e => ?_, hC2, fun z c e => ?_, fun q hq => absurd (show q ∈ ([] : List (Addr × Obj)) ++ [] from hq) (by simp), hok, rfl⟩
  · have hz : scope.names.lookup z = some .cell ∨ scope.names.lookup z = some .free := hz
    rcases hz with hz | hz
    · exact absurd rfl (S.cell _ (PySem.mem_of_lookup hz))
    · exact look hz
  · have e1 : [x, y][i]? = some z := e1
    match i, e1, e2 with
    | 0, _, e2 => exact nomatch (show (none : Option V) = some v from Option.some.inj e2)
    | 1, e1, e2 =>
      obtain rfl : y = z := Option.some.inj e1
      have e2 : slotAt σ j = some v := Option.some.inj e2
      have hvis : Vis X.env.scope y := (S.free _ (PySem.mem_of_lookup S.cap) rfl).elim (fun k => .inr (.inl k)) fun k => .inr (.inr k)
      obtain ⟨m0, hn, hl⟩ := I.loc
      obtain ⟨w', r, q⟩ := hl j y v hj (NdefX.slotAt_some e2) hvis
      obtain ⟨c2, h2⟩ := look S.cap
      refine ⟨w', r, .inr ⟨.inr S.cap, c2, h2, ?_⟩⟩
      have c1 := cm h2
      rcases q with ⟨k', _⟩ | ⟨_, c3, e', z⟩
      · have k' : X.env.scope.names.lookup y = some .local := k'
        rcases S.free _ (PySem.mem_of_lookup S.cap) rfl with k2 | k2 <;> rw [show X.env.scope.names.lookup y = _ from k2] at k' <;> cases k'
      · rw [c1] at e'
        cases e'
        exact cellK (I.freeC y _ c1) z
  · obtain ⟨w', z⟩ := I.cell z c (cm e)
    exact ⟨w', cellK (I.freeC _ c (cm e)) z⟩
  · obtain ⟨v, o, ho, hd⟩ := I.cell z c (cm e)
    exact un.free c o ho (I.freeC z c (cm e)) (by simp)
end
/-! ### the generator's turns -/
/-- i items are out -/
def GInv (GX : Cx) (I a g t : Addr) (yv : Option V) (W : Nat → Hp → Prop) (i : Nat) (s : Shared) : Prop :=
  ∃ H o oI oA, W i H ∧ Inv GX [(I, oI), (a, oA)] [o, yv] H s ∧ (∀ h : Heap, h.get? I = some oI → h.IsTupleIter I t i) ∧ ∀ h : Heap, h.get? a = some oA → h.IsGen a g
section
variable {GX : Cx} {I a g t : Addr} {yv : Option V} {W : Nat → Hp → Prop} {i : Nat} {s : Shared}
theorem inv_gens {pins : List (Addr × Obj)} {σ : L2.St} {H : Hp} (I : Inv GX pins σ H s) {G : Array GenState} {tk : Nat} (hG : AllBare G) : Inv GX pins σ H { s with gens := G, toks := tk } :=
  ⟨I.ok, I.os, hG, I.base, I.loc, I.cell, I.free, I.freeC, I.pin, I.hok, I.len⟩
theorem GInv.gens (h : GInv GX I a g t yv W i s) {G : Array GenState} {tk : Nat} (hG : AllBare G) : GInv GX I a g t yv W i { s with gens := G, toks := tk } := by
  obtain ⟨H, o, oI, oA, w, J, h1, h2⟩ := h
  exact ⟨H, o, oI, oA, w, inv_gens J hG, h1, h2⟩
theorem GInv.kept (h : GInv GX I a g t yv W i s) {h' : Heap} (k : ∀ b o, s.heap.get? b = some o → h'.get? b = some o) : GInv GX I a g t yv W i { s with heap := h' } := by
  obtain ⟨H, o, oI, oA, w, J, h1, h2⟩ := h
  exact ⟨H, o, oI, oA, w, J.kept (t' := s.toks) k, h1, h2⟩
theorem GInv.bare (h : GInv GX I a g t yv W i s) : AllBare s.gens := by
  obtain ⟨H, o, oI, oA, w, J, h1, h2⟩ := h
  exact J.bare
theorem GInv.gen (h : GInv GX I a g t yv W i s) : s.heap.IsGen a g ∧ s.heap.NoLimit := by
  obtain ⟨H, o, oI, oA, w, J, h1, h2⟩ := h
  exact ⟨h2 _ (J.pin (a, oA) (List.mem_append_right _ (by simp))).1, J.nolimit⟩
theorem bare_set {G : Array GenState} {g : Nat} {x : GenState} (hG : AllBare G) (hx : x.bare = true) : AllBare (G.setIfInBounds g x) := fun z hz => by
  obtain ⟨i, hi, rfl⟩ := Array.mem_iff_getElem.mp hz
  rw [Array.getElem_setIfInBounds]
  · split
    · exact hx
    · exact hG _ (Array.getElem_mem _)
  · simpa using hi
end
/-- all are out -/
def GFin (GX : Cx) (yv : Option V) (W : Nat → Hp → Prop) (N : Nat) (s : Shared) : Prop := ∃ H o, W N H ∧ Inv GX [] [o, yv] H s
theorem GFin.gens {GX : Cx} {yv : Option V} {W : Nat → Hp → Prop} {N : Nat} {s : Shared} (h : GFin GX yv W N s) {G : Array GenState} {tk : Nat} (hG : AllBare G) : GFin GX yv W N { s with gens := G, toks := tk } := by
  obtain ⟨H, o, w, J⟩ := h
  exact ⟨H, o, w, inv_gens J hG⟩
theorem GFin.kept {GX : Cx} {yv : Option V} {W : Nat → Hp → Prop} {N : Nat} {s : Shared} (h : GFin GX yv W N s) {h' : Heap} (k : ∀ b o, s.heap.get? b = some o → h'.get? b = some o) : GFin GX yv W N { s with heap := h' } := by
  obtain ⟨H, o, w, J⟩ := h
  exact ⟨H, o, w, J.kept (t' := s.toks) k⟩
theorem GFin.bare {GX : Cx} {yv : Option V} {W : Nat → Hp → Prop} {N : Nat} {s : Shared} (h : GFin GX yv W N s) : AllBare s.gens := by
  obtain ⟨H, o, w, J⟩ := h
  exact J.bare
def GxE (GX : Cx) (yv : Option V) (W : Nat → Hp → Prop) (N : Nat) : GenEnd := fun n _ r s1 => r = .ok .next ∧ (n = 0 ∧ GFin GX yv W N s1)
def GxY (GX : Cx) (I a g t : Addr) (yv : Option V) (W : Nat → Hp → Prop) (N : Nat) : Protocol := fun n _ v s1 kap => v = .bool true ∧ GInv GX I a g t yv W (N - n) s1 ∧ ∀ (G : Array GenState) (tk : Nat), AllBare G → kap (.send .none) { s1 with gens := G, toks := tk }
section
variable {X : Cx} {A0 : Around} {s1 : Shared} {H1 : Hp} {scope : Scope} {x y : Str} {C I a g t : Addr} {code : Value} {yv : Option V} {vs : List V} {W : Nat → Hp → Prop} {elt iter : Expr} {px pos : Pos} {tb : TE}
theorem over_comp {A : Around} {c : Code} {env : PySem.Env} (hw : c.weight = 1) (he : c.envs = [env]) (hg : c.guards = []) (hu : c.cUnits = 3) : A.over c [] = A.deeper env := by
  obtain ⟨hd, d, fr, gs, u⟩ := A
  show (⟨_, d + 0 + c.weight, pushEnvs c.envs (pushEnvs [] fr), pushGuards c.guards (pushGuards [] gs), u + 0 + c.cUnits⟩ : Around) = _
  rw [hw, he, hg, hu]
  simp only [pushEnvs_eq, pushGuards_eq, Around.deeper]
  cases fr <;> cases gs <;> simp <;> rfl
theorem seg_gen (S : GxS X.env.scope scope x y) (hh : A0.handled = none) (ht : Rd H1 t (.tup vs)) (hI : s1.heap.objs.size ≤ I) (hIa : I ≠ a)
    (hbody : PE (gcx X A0 s1 H1 [x, y] scope C code) elt tb) (hW : ∀ i v H2, vs[i]? = some v → W i H2 → tb [some v, yv] H2 fun r H3 => r = .bl true ∧ W (i + 1) H3) :
    ∀ (k i : Nat) (s₀ s : Shared), vs.length - i = k → i ≤ vs.length → GInv (gcx X A0 s1 H1 [x, y] scope C code) I a g t yv W i s →
      Seg (model X.prog X.w) A0 (GxE (gcx X A0 s1 H1 [x, y] scope C code) yv W vs.length) (GxY (gcx X A0 s1 H1 [x, y] scope C code) I a g t yv W vs.length) (vs.length - i) s₀
        (.compLoop (.GeneratorExp elt [⟨.Name x px, iter, [], 0⟩] scope pos) 0 (.ref I) .none (gEnv X scope C code)) ((model X.prog X.w).den (.compLoop (.GeneratorExp elt [⟨.Name x px, iter, [], 0⟩] scope pos) 0 (.ref I) .none (gEnv X scope C code))) [] s := by
  have ov : A0.over (.compLoop (.GeneratorExp elt [⟨.Name x px, iter, [], 0⟩] scope pos) 0 (.ref I) .none (gEnv X scope C code)) [] = A0.deeper (gEnv X scope C code) := over_comp rfl rfl rfl rfl
  have adv : ∀ {s : Shared} {H : Hp} {o : Option V} {oI oA : Obj} {h' : Heap}, Inv (gcx X A0 s1 H1 [x, y] scope C code) [(I, oI), (a, oA)] [o, yv] H s → (∀ b u, b ≠ I → s.heap.get? b = some u → h'.get? b = some u) → Inv (gcx X A0 s1 H1 [x, y] scope C code) [(a, oA)] [o, yv] H { s with heap := h' } := by
    intro s H o oI oA h' J k
    have pI := J.pin (I, oI) (List.mem_append_right _ (by simp))
    have J0 : Inv (gcx X A0 s1 H1 [x, y] scope C code) [(a, oA)] [o, yv] H s := J.pins_of fun p hp => J.pin p (List.mem_append_right _ (List.mem_cons_of_mem _ hp))
    refine J0.turned (t' := s.toks) (it := I) k pI.2.1 pI.2.2.1 (.inr hI) (fun z c e q => ?_) fun p hp => ?_
    · obtain ⟨v, oc, hc, hd⟩ := J.cell z c e
      rw [q, pI.1] at hc
      cases hc
      exact pI.2.2.2.2 v hd
    · have hp : p ∈ [(a, oA)] := hp
      rw [List.mem_singleton.mp hp]
      exact fun z => hIa z.symm
  intro k
  induction k with
  | zero =>
    intro i s₀ s hk hi hG
    have hin : i = vs.length := by omega
    subst hin
    show Seg _ A0 _ _ _ s₀ _ ((compTurn (.GeneratorExp elt [⟨.Name x px, iter, [], 0⟩] scope pos) 0 (.ref I) .none (gEnv X scope C code)).onRaise (leaving (gEnv X scope C code))) [] s
    rw [compTurn_gen, Sem.onRaise_eq_wrap]
    refine seg_bind_wrap (wpAny_standAt ?_)
    obtain ⟨H, o, oI, oA, w, J, h1, h2⟩ := hG
    have pI := J.pin (I, oI) (List.mem_append_right _ (by simp))
    obtain ⟨its, r, it, _⟩ := J.tuple (a := t) (xs := vs) (.inl (ht.elim (fun ht => .inl (J.base.tups t vs ht)) fun ⟨ob, ht⟩ => .inr ⟨ob, J.base.frzs t ob _ ht⟩))
    have len : its.length = vs.length := r.length.symm
    refine seg_bind_wrap (wpAny_pyNext_tuple_end (by rw [ov]; exact hh) (h1 _ pI.1) (show s.heap.IsTuple t its.toArray from it) (by simp [len]) fun h' hx => ?_)
    refine seg_end (.ok .next) ⟨rfl, by omega, H, o, w, ?_⟩
    have J2 := adv J fun b u hb e => hx b u hb e
    exact J2.pins_of fun p hp => absurd hp (by simp)
  | succ k ih =>
    intro i s₀ s hk hi hG
    have hlt : i < vs.length := by omega
    obtain ⟨m, hm⟩ : ∃ m, vs.length - i = m + 1 := ⟨vs.length - i - 1, by omega⟩
    have hm2 : vs.length - (i + 1) = m := by omega
    have hm3 : vs.length - m = i + 1 := by omega
    show Seg _ A0 _ _ _ s₀ _ ((compTurn (.GeneratorExp elt [⟨.Name x px, iter, [], 0⟩] scope pos) 0 (.ref I) .none (gEnv X scope C code)).onRaise (leaving (gEnv X scope C code))) [] s
    rw [compTurn_gen, Sem.onRaise_eq_wrap]
    refine seg_bind_wrap (wpAny_standAt ?_)
    obtain ⟨H, o, oI, oA, w, J, h1, h2⟩ := hG
    have pI := J.pin (I, oI) (List.mem_append_right _ (by simp))
    obtain ⟨its, r, it, _⟩ := J.tuple (a := t) (xs := vs) (.inl (ht.elim (fun ht => .inl (J.base.tups t vs ht)) fun ⟨ob, ht⟩ => .inr ⟨ob, J.base.frzs t ob _ ht⟩))
    have hv : vs[i]? = some vs[i] := List.getElem?_eq_getElem hlt
    obtain ⟨u, hu, ru⟩ := r.get hv
    refine seg_bind_wrap (wpAny_pyNext_tuple_item (x := u) (h1 _ pI.1) (show s.heap.IsTuple t its.toArray from it) (by simpa using hu) fun h' hit' hs' => ?_)
    refine seg_bind_wrap (wpAny_of_eq (rfl : letOwnedTupleGo (.Name x px) (.ref I) u = pure ()) ?_)
    have J2 := adv J fun b ob hb e => hs'.extBut b ob hb e
    obtain ⟨oI', q1, q2, q3⟩ := id hit'
    have J3 : Inv (gcx X A0 s1 H1 [x, y] scope C code) [(I, oI'), (a, oA)] [o, yv] H { s with heap := h' } := J2.pins_of fun p hp => by
      rcases List.mem_cons.mp hp with e | hp
      · rw [e]
        exact ⟨q1, pI.2.1, pI.2.2.1, pI.2.2.2.1, fun v z => by rw [q3] at z; cases z⟩
      · exact J2.pin p (List.mem_append_right _ hp)
    refine seg_bind_wrap (wpAny_assign_Name (store_ok J3 (i := 0) (x := x) (v := vs[i]) (show [x, y].Nodup by simp [S.ne]) rfl (.inl S.loc) ru (fun s2 J4 => ?_) (.inr S.loc)))
    have J4 : Inv (gcx X A0 s1 H1 [x, y] scope C code) [(I, oI'), (a, oA)] [some vs[i], yv] H s2 := J4
    refine seg_bind_wrap ?_
    rw [List.forIn_nil]
    refine wpAny_pure ?_
    simp only [if_true]
    have hy : ∀ v, yieldOut (gEnv X scope C code) v = yieldValue v := fun v => by
      unfold yieldOut
      rw [show (gEnv X scope C code).scope.isCoroutine = false from S.co]
      rfl
    simp only [hy]
    rw [Sem.bind_eq_wrap', Sem.bind_eq_wrap', Sem.wrap_wrap, Sem.wrap_wrap]
    refine seg_wrap ?_
    rw [ov]
    refine wpAny_mono (hbody.run _ s2 _ H _ J4 (hW i vs[i] H hv w)) (fun z s4 h4 => ?_) fun _ _ e => False.elim e
    obtain ⟨rr, H4, J5, rz, e5, w5⟩ := h4
    subst e5
    cases rz
    rw [hm]
    refine seg_at (seg_yield rfl rfl rfl ⟨rfl, ?_, fun G tk hG => ?_⟩)
    · rw [hm3]
      exact ⟨H4, _, oI', oA, w5, J5, fun h e => ⟨oI', e, q2, q3⟩, h2⟩
    · rw [← hm2]
      refine seg_again rfl (ih (i + 1) _ _ (by omega) hlt ⟨H4, _, oI', oA, w5, inv_gens J5 hG, fun h e => ⟨oI', e, q2, q3⟩, h2⟩)
theorem seg_genS (S : GxS X.env.scope scope x y) (hh : A0.handled = none) (ht : Rd H1 t (.tup vs)) (hI : s1.heap.objs.size ≤ I) (hIa : I ≠ a)
    (hbody : PE (gcx X A0 s1 H1 [x, y] scope C code) elt tb) (hW : ∀ i v H2, vs[i]? = some v → W i H2 → tb [some v, yv] H2 fun r H3 => r = .bl true ∧ W (i + 1) H3) (s₀ s : Shared) (hG : GInv (gcx X A0 s1 H1 [x, y] scope C code) I a g t yv W 0 s) :
      Seg (model X.prog X.w) A0 (GxE (gcx X A0 s1 H1 [x, y] scope C code) yv W vs.length) (GxY (gcx X A0 s1 H1 [x, y] scope C code) I a g t yv W vs.length) (vs.length - 0) s₀
        (.compStart (.GeneratorExp elt [⟨.Name x px, iter, [], 0⟩] scope pos) 0 (.ref I) .none (gEnv X scope C code)) ((model X.prog X.w).den (.compStart (.GeneratorExp elt [⟨.Name x px, iter, [], 0⟩] scope pos) 0 (.ref I) .none (gEnv X scope C code))) [] s := by
  have loop := seg_gen (px := px) (iter := iter) (pos := pos) S hh ht hI hIa hbody hW vs.length 0 s₀ s (Nat.sub_zero _) (Nat.zero_le _) hG
  show Seg _ A0 _ _ _ s₀ _ ((compStart (.GeneratorExp elt [⟨.Name x px, iter, [], 0⟩] scope pos) 0 (.ref I) .none (gEnv X scope C code)).onRaise (leaving (gEnv X scope C code))) [] s
  unfold compStart
  rw [Sem.onRaise_eq_wrap]
  show Seg _ A0 _ _ _ s₀ _ ((ask >>= _).wrap _ _ _ _) [] s
  refine seg_bind_wrap (wpAny_askSetting ?_)
  obtain ⟨H, o, oI, oA, w, J, h1, h2⟩ := hG
  have pI := J.pin (I, oI) (List.mem_append_right _ (by simp))
  split
  · exact seg_again rfl loop
  · first
      | exact seg_bind_wrap (wpAny_rule (seg_bind_wrap (wpAny_standAt (seg_bind_wrap (wpAny_pyIter_tupleiter (h1 _ pI.1) (seg_again rfl loop))))))
      | (refine seg_bind_wrap (wpAny_rule ?_); show Seg _ A0 _ _ _ s₀ _ ((standAt iter.pos >>= _).wrap _ _ _ _) [] s; exact seg_bind_wrap (wpAny_standAt (seg_bind_wrap (wpAny_pyIter_tupleiter (h1 _ pI.1) (seg_again rfl loop)))))
/-- the generator sleeps, i items are out -/
def GReady (X : Cx) (A0 : Around) (GX : Cx) (I a g t : Addr) (yv : Option V) (W : Nat → Hp → Prop) (N i : Nat) (s : Shared) : Prop :=
  ∃ gs, s.gens[g]? = some gs ∧ GInv GX I a g t yv W i s ∧ gs.Goes (model X.prog X.w) A0 (GxE GX yv W N) (GxY GX I a g t yv W N) (N - i) (.send .none) (s.setGen g .running)
section
variable {GX : Cx} {N i : Nat} {s : Shared} {A : Around} {E : Value → Shared → Prop} {Q : Option Value → Shared → Prop}
theorem lt_of_some {G : Array GenState} {g : Nat} {x : GenState} (h : G[g]? = some x) : g < G.size := by
  rcases Nat.lt_or_ge g G.size with h' | h'
  · exact h'
  · rw [Array.getElem?_eq_none h'] at h; cases h
theorem next_item (hh : A.handled = none) (hr : A.depth < recursionLimit) (hi : i < N) (h : GReady X A.in1 GX I a g t yv W N i s) (hQ : ∀ s', GReady X A.in1 GX I a g t yv W N (i + 1) s' → Q (some (.bool true)) s') : wpAny (model X.prog X.w) A (pyNext (.ref a)) Q E s := by
  obtain ⟨gs, h1, h2, h3⟩ := h
  obtain ⟨m, hm⟩ : ∃ m, N - i = m + 1 := ⟨N - i - 1, by omega⟩
  rw [hm] at h3
  have hlt := lt_of_some h1
  refine GenW.wpAny_gsz (n := g + 1) hlt (wpAny_pyNext_genexpQ (P := fun n _ s1 => n = 0 ∧ GFin GX yv W N s1) hh h2.gen.2 hr h2.gen.1 h1 h3 (fun v s1 gs' hb hv => ?_) (fun s1 hp => absurd hp.1 (Nat.succ_ne_zero m)))
  obtain ⟨e, hG, kap⟩ := hv
  subst e
  intro hsz
  have hsz2 : g < s1.gens.size := by
    have q : g + 1 ≤ (s1.setGen g gs').gens.size := hsz
    rw [GenW.setGen_size] at q
    exact q
  have e1 : N - (m + 1 - 1) = i + 1 := by omega
  have e2 : N - (i + 1) = m := by omega
  rw [e1] at hG
  refine hQ _ ⟨gs', ?_, hG.gens (tk := s1.toks) (bare_set hG.bare hb), ?_⟩
  · show (s1.gens.setIfInBounds g gs')[g]? = some gs'
    rw [Array.getElem?_setIfInBounds_self_of_lt hsz2]
  · rw [e2]
    exact kap _ s1.toks (bare_set (bare_set hG.bare hb) rfl)
theorem next_done (hh : A.handled = none) (hr : A.depth < recursionLimit) (h : GReady X A.in1 GX I a g t yv W N N s) (hQ : ∀ s', GFin GX yv W N s' → Q none s') : wpAny (model X.prog X.w) A (pyNext (.ref a)) Q E s := by
  obtain ⟨gs, h1, h2, h3⟩ := h
  rw [Nat.sub_self] at h3
  refine wpAny_pyNext_genexpQ (P := fun n _ s1 => n = 0 ∧ GFin GX yv W N s1) hh h2.gen.2 hr h2.gen.1 h1 h3 (fun v s1 gs' hb hv => ?_) (fun s1 hp h' hk => ?_)
  · obtain ⟨_, hG, kap⟩ := hv
    exact (kap s1.gens s1.toks hG.bare).elim
  · exact hQ _ ((hp.2.gens (tk := s1.toks) (bare_set hp.2.bare rfl)).kept hk)
theorem all_loop {R : Result → Shared → Prop} (hh : A.handled = none) (hr : A.depth < recursionLimit) : ∀ (k i : Nat) (s : Shared), N - i = k → i ≤ N → GReady X A.in1.in1 GX I a g t yv W N i s →
    (∀ s', GFin GX yv W N s' → R (.ok (.ret (.bool true))) s') → codeAny (model X.prog X.w) A (.builtin "all.loop" ⟨[.ref a], []⟩) R s := by
  intro k
  induction k with
  | zero =>
    intro i s hk hi h hR
    obtain rfl : i = N := by omega
    refine codeAny_builtin F.entry_all_loop ?_
    rw [Around.under_plainId F.plain_all_loop _]
    show wpAny _ A.in1 (pyNext (.ref a) >>= _) _ _ s
    refine wpAny_bind (next_done (A := A.in1) hh hr h fun s' hf => ?_)
    exact wpAny_bind (wpAny_rule (wpAny_pure (hR s' hf)))
  | succ k ih =>
    intro i s hk hi h hR
    refine codeAny_builtin F.entry_all_loop ?_
    rw [Around.under_plainId F.plain_all_loop _]
    show wpAny _ A.in1 (pyNext (.ref a) >>= _) _ _ s
    refine wpAny_bind (next_item (A := A.in1) hh hr (by omega) h fun s' hG => ?_)
    refine wpAny_bind (wpAny_holding (wpAny_truthy_bool ?_))
    refine wpAny_bind (wpAny_letGo ?_)
    simp only [if_true]
    exact wpAny_pure ⟨plainId_quiet F.plain_all_loop _, ih (i + 1) s' (by omega) (by omega) hG hR⟩
end
end
/-- all(test for x in e): e a tuple; every test gives True; y: the captured name, at the place j -/
def tAllG (P : Addr) (j : Nat) (ti tb : TE) : TE := fun σ H Q => ti σ H fun v H1 => ∃ t vs, v = .ref t ∧ Rd H1 t (.tup vs) ∧ GxR.TabG H1 P ∧ ∃ W : Nat → Hp → Prop, (∀ H2, GxR.Tabbed P H1 H2 → W 0 H2) ∧
  (∀ i x H2, vs[i]? = some x → W i H2 → tb [some x, slotAt σ j] H2 fun r H3 => r = .bl true ∧ W (i + 1) H3) ∧ ∀ H2, W vs.length H2 → Q (.bl true) H2
section
variable {X : Cx} {pins : List (Addr × Obj)} {σ : L2.St} {H : Hp} {s : Shared}
theorem nofr (I : Inv X pins σ H s) : ∀ f, s.heap.objs.size ≤ f → f ∉ frs X.stack := fun f hf z => by
  rcases List.mem_cons.mp (I.stkSub _ z) with e | e
  · have h1 := I.lt
    rw [← e] at h1
    exact Nat.lt_irrefl _ (Nat.lt_of_lt_of_le h1 hf)
  · exact I.nofs hf e
theorem pe_allG {c P : Addr} {elt iter : Expr} {x y : Str} {px p pos gpos : Pos} {scope : Scope} {ti tb : TE} {j k : Nat} (hr : Room (k + 3) X.A) (hg : Gl X "all") (hm : X.mg "all" = none) (TB : GxR.TabB X.base X.mg c P) (hcode : X.env.code = .ref c)
    (S : GxS X.env.scope scope x y) (hj : X.N[j]? = some y) (hi : PE X iter ti) (hel : ∀ s1 H1 C code, Room k (X.A.in1.in1.deeper (gEnv X scope C code)) → PE (gcx X X.A.in1.in1 s1 H1 [x, y] scope C code) elt tb)
    (hs : ∀ v, genFold iter X.env v = pure v)
    (he : starEach [.GeneratorExp elt [⟨.Name x px, iter, [], 0⟩] scope gpos] X.env = (false, eval (.GeneratorExp elt [⟨.Name x px, iter, [], 0⟩] scope gpos) X.env) :: starEach [] X.env := by rfl) :
    PE X (.Call (.Name "all" p) [.GeneratorExp elt [⟨.Name x px, iter, [], 0⟩] scope gpos] [] pos) (tAllG P j ti tb) := by
  refine ⟨fun pins s σ H Q I h => ?_⟩
  have hrd : X.A.depth < recursionLimit := by have := hr.dp; omega
  have hfree : ∀ z ∈ scope.names, z.2 = .free → ∃ c, X.env.cells.lookup z.1 = some c := fun z hz e => (S.free z hz e).elim (fun k => I.ok.has _ (.inl k)) fun k => I.ok.has _ (.inr k)
  refine wpAny_Call_Name_kw (ld_blt I hg hm boot_all ?_)
  refine PyProof.Rows.callWith_builtin1 ?_ he (by rfl)
  rw [he]
  show wpAny _ _ (spliced ((false, eval (.GeneratorExp elt [⟨.Name x px, iter, [], 0⟩] scope gpos) X.env) :: backTo pos (starEach [] X.env))) _ _ s
  refine Calls.spliced_cons (wpAny_GeneratorExp_make S.co (closure_ok hfree) S.cell S.dot S.kind hrd (L2.thn (hi.run pins s σ H _ I h) fun xv s1 ⟨v, H1, I1, r1, q1⟩ => ?_) hs)
  obtain ⟨t, vs, rfl, ht, ⟨ps, hP, hps⟩, W, w0, wS, wQ⟩ := q1
  obtain rfl : xv = Value.ref t := r1
  obtain ⟨its, r, it, _⟩ := I1.tuple (a := t) (xs := vs) (.inl ht)
  refine wpAny_pyIter_tuple (show s1.heap.IsTuple t its.toArray from it) ?_
  have hPs : s1.heap.get? P = some { cls := .none, data := .fields ps } := I1.hok P _ hP
  have hPlt : P < s1.heap.objs.size := Heap.lt_size hPs
  generalize hoI : ({ cls := .type "tuple_iterator", data := .fields #[.ref t, .int 0 0] } : Obj) = oI
  have gI : (s1.heap.push oI).get? s1.heap.objs.size = some oI := by
    rw [← hoI]
    exact Heap.get?_push_size _ rfl
  have hP2 : (s1.heap.push oI).get? P = some { cls := .none, data := .fields ps } := Heap.get?_push_of_some _ hPs
  have cd : PySem.W.CodeHd (s1.heap.push oI) c P := TB.code.keeps fun b u e => Heap.get?_push_of_some _ (I1.bk b u e)
  refine ⟨I1.nolimit.push oI, ?_⟩
  have sz2 : (s1.heap.push oI).objs.size = s1.heap.objs.size + 1 := Heap.size_push ..
  have fin : ∀ (code : Value) (h3 : Heap) (tk : Nat) (more : Array Value), (∀ b u, b ≠ P → (s1.heap.push oI).get? b = some u → h3.get? b = some u) → (s1.heap.push oI).objs.size ≤ h3.objs.size → h3.get? P = some { cls := .none, data := .fields (ps ++ more) } → TriplesOk (ps ++ more).toList →
      wpAny (model X.prog X.w) X.A (builtinsFor X.env.globals X.env.builtins) (fun bi s₄ =>
        ∀ h', h'.Ns s₄.heap.objs.size (fun y => if y = ".0" then some (.ref s1.heap.objs.size) else none) → Heap.SameBut s₄.heap.objs.size (s₄.heap.push { cls := .type "frame", data := .dict #[] }) h' →
          wpAny (model X.prog X.w) X.A (spliced (backTo pos (starEach [] X.env))) (fun vs s₁ => wpAny (model X.prog X.w) X.A (call (.builtin "all") (Value.ref h'.objs.size :: vs)) (EP X pins σ Q) X.xe s₁) X.xe { s₄ with
            gens := s₄.gens.push (.fresh (.compStart (.GeneratorExp elt [⟨.Name x px, iter, [], 0⟩] scope gpos) 0 (.ref s1.heap.objs.size) .none (genEnv scope (cloFrom X.env.cells scope.names []) s₄.heap.objs.size code bi X.env))),
            toks := s₄.toks + 1 + 1 + 1,
            heap := h'.push { cls := .type "generator", data := .fields #[.int s₄.gens.size 0, .str "<genexpr>" (s₄.toks + 1), .str (X.env.qual ++ "<genexpr>") (s₄.toks + 1 + 1)] } }) X.xe { s1 with heap := h3, toks := tk } := by
    intro code h3 tk more hx hsz hP3 ht3
    obtain ⟨bm, ob, e1, e2, e3, e4, e5, e6, e7, e8⟩ := TB.bm
    have keep3 : ∀ b u, b ≠ P → s1.heap.get? b = some u → h3.get? b = some u := fun b u hb e => hx b u hb (Heap.get?_push_of_some _ e)
    refine wpAny_builtinsFor (m := X.mg) (by
      rw [I1.ok.glob]
      exact ((I1.mod.glob.keeps I1.bk)).at' fun o e => keep3 _ o TB.gP e) e1 e2 (keep3 _ _ e4 (I1.bk _ _ e5)) e6 e7 e8 ?_
    intro h' hns hsb
    have szh : h'.objs.size = h3.objs.size + 1 := by rw [hsb.1, Heap.size_push]
    generalize hoA : ({ cls := .type "generator", data := .fields #[.int s1.gens.size 0, .str "<genexpr>" (tk + 1), .str (X.env.qual ++ "<genexpr>") (tk + 1 + 1)] } : Obj) = oA
    have gA : (h'.push oA).get? h'.objs.size = some oA := by
      rw [← hoA]
      exact Heap.get?_push_size _ rfl
    have k3 : ∀ b u, h3.get? b = some u → (h'.push oA).get? b = some u := fun b u e => Heap.get?_push_of_some _ (hsb.extBut b u (Nat.ne_of_lt (Heap.lt_size e)) (Heap.get?_push_of_some _ e))
    have k5 : ∀ b u, b ≠ P → s1.heap.get? b = some u → (h'.push oA).get? b = some u := fun b u hb e => k3 b u (keep3 b u hb e)
    have bare5 : AllBare (s1.gens.push (.fresh (.compStart (.GeneratorExp elt [⟨.Name x px, iter, [], 0⟩] scope gpos) 0 (.ref s1.heap.objs.size) .none (gEnv X scope h3.objs.size code)))) := I1.bare.push rfl
    have J : Inv X pins σ (upd H1 P (.tbl (ps ++ more))) { s1 with heap := h'.push oA, gens := s1.gens.push (.fresh (.compStart (.GeneratorExp elt [⟨.Name x px, iter, [], 0⟩] scope gpos) 0 (.ref s1.heap.objs.size) .none (gEnv X scope h3.objs.size code))), toks := tk + 1 + 1 + 1 } :=
      GxR.inv_tab (more := more) (d' := s1.drawn) I1 hP k5 (k3 _ _ hP3) bare5
    have un := un_tab (fs := frs X.stack) (more := more) hP k5 ⟨_, k3 _ _ hP3⟩
    have H2n : ∀ b, s1.heap.objs.size ≤ b → (upd H1 P (.tbl (ps ++ more))) b = none := fun b hb => by
      have ne : b ≠ P := fun z => by rw [z] at hb; exact Nat.lt_irrefl _ (Nat.lt_of_lt_of_le hPlt hb)
      rw [upd_ne ne]
      exact I1.hok.fresh hb
    have hC : s1.heap.objs.size ≤ h3.objs.size := by
      rw [sz2] at hsz
      exact Nat.le_of_succ_le hsz
    have G0 := inv_startG (s2 := { s1 with heap := h'.push oA, gens := s1.gens.push (.fresh (.compStart (.GeneratorExp elt [⟨.Name x px, iter, [], 0⟩] scope gpos) 0 (.ref s1.heap.objs.size) .none (gEnv X scope h3.objs.size code))), toks := tk + 1 + 1 + 1 }) (A0 := X.A.in1.in1) (code := code) (m := fun y => if y = ".0" then some (.ref s1.heap.objs.size) else none) I1 S hj hr.hd I1.ok.frames rfl bare5 un J.hok hC (H2n _ hC) (hns.push oA)
    have lI : s1.heap.objs.size < h3.objs.size := by
      rw [sz2] at hsz
      exact hsz
    have gI5 : (h'.push oA).get? s1.heap.objs.size = some oI := k3 _ _ (hx _ _ (Nat.ne_of_gt hPlt) gI)
    have haI : h'.objs.size ≠ s1.heap.objs.size := by rw [szh]; exact Nat.ne_of_gt (Nat.lt_succ_of_lt lI)
    have haC : h'.objs.size ≠ h3.objs.size := by rw [szh]; exact Nat.succ_ne_self _
    have hAs : s1.heap.objs.size ≤ h'.objs.size := by rw [szh]; exact Nat.le_succ_of_le hC
    have G1 : GInv (gcx X X.A.in1.in1 s1 H1 [x, y] scope h3.objs.size code) s1.heap.objs.size h'.objs.size s1.gens.size t (slotAt σ j) W 0 { s1 with heap := h'.push oA, gens := s1.gens.push (.fresh (.compStart (.GeneratorExp elt [⟨.Name x px, iter, [], 0⟩] scope gpos) 0 (.ref s1.heap.objs.size) .none (gEnv X scope h3.objs.size code))), toks := tk + 1 + 1 + 1 } := by
      refine ⟨_, none, oI, oA, w0 _ ⟨⟨ps ++ more, upd_same, ht3⟩, fun b hb => upd_ne hb⟩, G0.pins_of fun q hq => ?_, fun h e => ⟨oI, e, by rw [← hoI], by rw [← hoI]; rfl⟩, fun h e => ⟨oA, _, _, e, by rw [← hoA], by rw [← hoA], by rw [← hoA]⟩⟩
      rcases List.mem_cons.mp hq with e | hq
      · rw [e]
        exact ⟨gI5, H2n _ (Nat.le_refl _), Nat.ne_of_lt lI, nofr I1 _ (Nat.le_refl _), fun v z => by rw [← hoI] at z; cases z⟩
      · rw [List.mem_singleton.mp hq]
        exact ⟨gA, H2n _ hAs, haC, nofr I1 _ hAs, fun v z => by rw [← hoA] at z; cases z⟩
    refine Calls.spliced_nil ?_
    refine call_function_tree F.kind_all F.plain_all F.entry_all (F.args_all1 _) ?_
    unfold Builtin.«all»
    refine wpAny_bind (m := oneArg "all" _) (wpAny_pure ?_)
    refine wpAny_bind (wpAny_pyIter_gen G1.gen.1 ?_)
    refine wpAny_pure ⟨plainId_quiet F.plain_all_loop _, all_loop (X := X) (N := vs.length) hr.hd hrd vs.length 0 _ (Nat.sub_zero _) (Nat.zero_le _) ⟨_, Array.getElem?_push_size .., G1, ?_⟩ fun s' hf => ?_⟩
    · exact ⟨rfl, seg_genS (A0 := X.A.in1.in1) S hr.hd ht (Nat.le_refl _) haI.symm (hel s1 H1 h3.objs.size code ((Room.in1 (Room.in1 hr)).deeper _)) wS _ _ (G1.gens (tk := tk + 1 + 1 + 1) (bare_set (g := s1.gens.size) (x := .running) bare5 rfl))⟩
    · obtain ⟨H3, o, w3, J3⟩ := hf
      exact ⟨.bl true, H3, I1.call' (ch := []) J3.os J3.base J3.hok J3.bare fun _ z => absurd z (by simp), rfl, wQ H3 w3⟩
  cases hf : codeAmong gpos ps.toList with
  | none =>
    refine wpAny_genexprCodeX hcode (cd.code hP2 hps) (cd.tab hP2) hf fun c' h' tk hx hge hlt hco' _ htab' _ => ?_
    obtain ⟨o1, vs', f1, tf, fl, tg, inF, tx, tt, op, _, _, _, _, _, _, _, _, _, htr, _⟩ := hco'
    exact fin _ h' tk _ hx (Nat.le_trans hge (Nat.le_of_lt hlt)) htab'.2 htr
  | some cv =>
    refine wpAny_genexprCode_hit hcode (cd.code hP2 hps) hf ?_
    exact fin cv (s1.heap.push oI) s1.toks #[] (fun b u _ e => e) (Nat.le_refl _) (by simpa using hP2) (by simpa using hps)
end
end NB
set_option maxHeartbeats 2000000
/-! a lambda of one parameter, with captured names, handed to a def that calls it -/
namespace NB
open PySem PySem.Spec PyProof.Rows L2
open NdefX (slotAt clo_cm NScope NF CellsAt Caps cells_of inv_startN startF ncx)
open LamX (CodeO TabS)

/-- what the making leaves: the table knows the code object at c' -/
structure LamMade (H H1 : Hp) (P : Addr) (q : Str) (c' : Addr) : Prop where
  tab0 : ∃ ps, H P = some (.tbl ps)
  tab : TabS H1 P q
  code : H1 c' = some (CodeO c' q)
  ne : c' ≠ P
  same : ∀ b, b ≠ P → b ≠ c' → H1 b = H b
  old : H c' = none ∨ H c' = some (CodeO c' q)
theorem codeO_ne {c : Addr} {q : Str} (ps : Array Value) : CodeO c q ≠ .tbl ps := fun z => by
  unfold CodeO at z
  cases z
section
variable {X : Cx} {pins : List (Addr × Obj)} {σ : L2.St} {H : Hp} {s : Shared}
theorem lam_mk {c P : Addr} {params : Arguments} {body : Expr} {scope : Scope} {pos : Pos} {q : Str} {E : Value → Shared → Prop} {Q : Value → Shared → Prop} (I : Inv X pins σ H s) (TB : LamX.TabB X.base X.mg c P) (hcode : X.env.code = .ref c) (hq : X.env.qual ++ "<lambda>" = q)
    (hT : TabS H P q) (hdef : defaultsOf params X.env = ([], [])) (hfree : ∀ y ∈ scope.names, y.2 = .free → ∃ c, X.env.cells.lookup y.1 = some c)
    (h : ∀ (f c' : Addr) (pm ctv : Value) (H1 : Hp) (s' : Shared), Inv X pins σ H1 s' → LamMade H H1 P q c' →
      s'.heap.get? f = some (PySem.W.kla_obj "<lambda>" q params body scope (cloFrom X.env.cells scope.names []) pm c' ctv) → H1 f = none → f ∉ frs X.stack → Q (.ref f) s') :
    wpAny (model X.prog X.w) X.A (eval (.Lambda params body scope pos) X.env) Q E s := by
  obtain ⟨ps, hP, tri, among⟩ := hT
  have bP : s.heap.BuiltinsAt X.mg P := TB.bm.keeps I.bk
  have oP : s.heap.get? P = some { cls := .none, data := .fields ps } := I.hok P _ hP
  refine PySem.W.kla_eval hdef ?_
  rw [hq]
  match hc : codeAmong pos ps.toList with
  | some cv =>
    obtain ⟨c', rfl, known⟩ := among pos cv hc
    refine PySem.W.kla_makeFunctionHit (mg := X.mg) (c := c) (P := P) (ps := ps) (L2.closure_ok hfree) I.ok.glob (I.mod.glob.keeps I.bk)
      hcode (TB.code.keeps I.bk) oP tri hc bP fun ctv h' tk hx hsz => ?_
    have J := I.kept (t' := tk) (h' := h'.push (PySem.W.kla_obj "<lambda>" q params body scope (cloFrom X.env.cells scope.names []) ((X.mg "__name__").getD .none) c' ctv))
      fun b o e => Heap.get?_push_of_some _ (hx b o e)
    refine h h'.objs.size c' _ ctv H _ J ⟨⟨ps, hP⟩, ⟨ps, hP, tri, among⟩, known, fun z => ?_, fun _ _ _ => rfl, .inr known⟩
      (Heap.get?_push_size _ rfl) (I.hok.fresh hsz) (nofr I _ hsz)
    rw [z, hP] at known
    exact codeO_ne ps (Option.some.inj known).symm
  | none =>
    refine PySem.W.kla_makeFunction (mg := X.mg) (c := c) (P := P) (ps := ps) (L2.closure_ok hfree) I.ok.glob (I.mod.glob.keeps I.bk)
      hcode (TB.code.keeps I.bk) oP tri hc TB.gP bP fun c' ctv h' tk hx hge hlt hrec htb => ?_
    obtain ⟨c2, oc, vs, t, e2, hoc, hd, hv⟩ := hrec
    cases e2
    have big : s.heap.objs.size ≤ h'.objs.size := Nat.le_trans hge (Nat.le_of_lt hlt)
    have n0 : H c' = none := I.hok.fresh hge
    have ncP : c' ≠ P := (ne_of_none hP n0).symm
    have J := LamX.inv_table (t' := tk) (q := q) (more := #[rawInt pos.line, rawInt pos.col, .ref c']) (h' := h'.push (PySem.W.kla_obj "<lambda>" q params body scope (cloFrom X.env.cells scope.names []) ((X.mg "__name__").getD .none) c' ctv))
      I hP (fun b o hb e => Heap.get?_push_of_some _ (hx b o hb e)) (Heap.get?_push_of_some _ htb) hge ⟨oc, vs, t, Heap.get?_push_of_some _ hoc, hd, hv⟩
    have keepC : ∀ c0, H c0 = some (CodeO c0 q) → (upd (upd H P (.tbl (ps ++ #[rawInt pos.line, rawInt pos.col, .ref c']))) c' (CodeO c' q)) c0 = some (CodeO c0 q) := fun c0 e => by
      have a1 : c0 ≠ c' := ne_of_none e n0
      have a2 : c0 ≠ P := fun z => by
        rw [z, hP] at e
        exact codeO_ne ps (Option.some.inj e).symm
      rw [upd_ne a1, upd_ne a2]
      exact e
    have eL : (ps ++ #[rawInt pos.line, rawInt pos.col, Value.ref c']).toList = ps.toList ++ [rawInt pos.line, rawInt pos.col, .ref c'] := by simp
    refine h h'.objs.size c' _ ctv _ _ J ⟨⟨ps, hP⟩, ⟨_, by rw [upd_ne ncP.symm, upd_same], by rw [eL]; exact PySem.TriplesOk_snoc _ _ _ _ tri, fun p' cv hcv => ?_⟩, upd_same, ncP, fun b b1 b2 => by rw [upd_ne b2, upd_ne b1], .inl n0⟩
      (Heap.get?_push_size _ rfl) ?_ (nofr I _ big)
    · rw [eL] at hcv
      rcases LamX.among_app _ tri hcv with z | z
      · obtain ⟨c0, e1, e2⟩ := among p' cv z
        exact ⟨c0, e1, keepC c0 e2⟩
      · exact ⟨c', z, upd_same⟩
    · have m1 : h'.objs.size ≠ c' := Nat.ne_of_gt hlt
      have m2 : h'.objs.size ≠ P := Nat.ne_of_gt (Nat.lt_of_lt_of_le (Heap.lt_size oP) big)
      rw [upd_ne m1, upd_ne m2]
      exact I.hok.fresh big
/-- what the cells held at the entry they hold still -/
theorem cells_later {Z : Cx} {cl : List (Str × Addr)} {fr : List Str} {ws : List (Option V)} {pz : List (Addr × Obj)} {σz : L2.St} (C : CellsAt cl fr ws Z.s_0.heap Z.H_0) (hx : ∀ b, b ∉ Z.ex) (J : Inv Z pz σz H s) : CellsAt cl fr ws s.heap H := by
  have kp : ∀ y c, cl.lookup y = some c → ∀ v, Z.s_0.heap.IsCell c v → s.heap.IsCell c v := fun y c e v ⟨o, ho, hd⟩ => by
    obtain ⟨sl, h1⟩ := J.base.any ho (C.all y c e).1 (hx c)
    exact ⟨_, h1, hd⟩
  refine ⟨C.len, fun y c e => ?_, C.inj, fun i y e => ?_⟩
  · obtain ⟨n, v, z⟩ := C.all y c e
    refine ⟨?_, v, kp y c e v z⟩
    obtain ⟨o, ho, _⟩ := z
    exact J.base.free c o ho n (hx c)
  · obtain ⟨c, hc, hv⟩ := C.has i y e
    refine ⟨c, hc, fun v ev => ?_⟩
    obtain ⟨u, r, z⟩ := hv v ev
    exact ⟨u, r, kp y c hc _ z⟩
/-- a lambda's scope: its one parameter is captured within, one name is captured from without -/
structure LScope (N : List Str) (a y : Str) (sc : Scope) : Prop where
  kind : sc.kind = .function
  co : sc.isCoroutine = false
  gen : sc.isGenerator = false
  names : sc.names = [(a, .cell), (y, .free)]
  ne : a ≠ y
  pre : N.take 2 = [a, y]
  nd : N.Nodup
def lscB (N : List Str) (a y : Str) (sc : Scope) : Bool := decide (sc.kind = .function) && !sc.isCoroutine && !sc.isGenerator && decide (sc.names = [(a, .cell), (y, .free)]) && decide (a ≠ y) && decide (N.take 2 = [a, y]) && decide N.Nodup
theorem lscope_by {N : List Str} {a y : Str} {sc : Scope} (h : lscB N a y sc = true) : LScope N a y sc := by
  unfold lscB at h
  simp only [Bool.and_eq_true, Bool.not_eq_true', decide_eq_true_eq] at h
  obtain ⟨⟨⟨⟨⟨⟨h1, h2⟩, h3⟩, h4⟩, h5⟩, h6⟩, h7⟩ := h
  exact ⟨h1, h2, h3, h4, h5, h6, h7⟩
theorem newEnv_l {M : Model} {A : Around} {E : Value → Shared → Prop} {s : Shared} {scope : Scope} {globals : Addr} {cl : List (Str × Addr)} {a y : Str} {u : Value} {qual : Str} {func : Option Addr} {code : Value} {builtins : Addr} {Q : PySem.Env → Shared → Prop} (hk : scope.kind = .function) (hn : scope.names = [(a, .cell), (y, .free)])
    (hQ : ∀ h', h'.IsCell (s.heap.objs.size + 1) (some u) → Heap.SameBut (s.heap.objs.size + 1) ((s.heap.push { cls := .type "frame", data := .dict #[] }).push { cls := .type "cell", data := .cell none }) h' → Q (newEnv scope s.heap.objs.size globals ((a, s.heap.objs.size + 1) :: cl) qual func code none builtins) { s with heap := h' }) :
    wpAny M A (newFunctionEnv scope globals cl [(a, u)] qual func code none builtins) Q E s := by
  simp only [newFunctionEnv, Option.isSome_none, Bool.false_eq_true, if_false]
  refine wpAny_bind (wpAny_alloc ?_)
  refine wpAny_bind (wpAny_layCells _ (fun name kind cells => by cases hkc : kind == NameKind.cell <;> simp [hkc]) _ _ _ _ ?_)
  rw [show ({ s with heap := s.heap.push { cls := .type "frame", data := .dict #[] } } : Shared).heap.objs.size = s.heap.objs.size + 1 from Heap.size_push ..]
  rw [hn]
  show wpAny _ _ _ _ _ { s with heap := (s.heap.push { cls := .type "frame", data := .dict #[] }).push { cls := .type "cell", data := .cell none } }
  have ce : cellsFrom (s.heap.objs.size + 1) [(a, NameKind.cell), (y, NameKind.free)] cl = (a, s.heap.objs.size + 1) :: cl := rfl
  rw [ce]
  have isC : ((s.heap.push { cls := .type "frame", data := .dict #[] }).push { cls := .type "cell", data := .cell none }).IsCell (s.heap.objs.size + 1) none := by
    refine ⟨{ cls := .type "cell", data := .cell none }, ?_, rfl⟩
    have z := Heap.get?_push_size (s.heap.push { cls := .type "frame", data := .dict #[] }) (o := { cls := .type "cell", data := .cell none }) rfl
    rwa [Heap.size_push] at z
  refine wpAny_bind ?_
  rw [List.forIn_cons]
  have hl : (newEnv scope s.heap.objs.size globals ((a, s.heap.objs.size + 1) :: cl) qual func code none builtins).kindOf a = some .cell := by
    show scope.names.lookup a = _
    rw [hn]
    simp [List.lookup]
  refine wpAny_bind (wpAny_bind (wpAny_storeName_cell (env := newEnv scope s.heap.objs.size globals ((a, s.heap.objs.size + 1) :: cl) qual func code none builtins) (c := s.heap.objs.size + 1) hk hl (by show List.lookup a ((a, s.heap.objs.size + 1) :: cl) = _; simp [List.lookup]) isC fun h' hc' hs' => wpAny_pure ?_))
  dsimp only
  rw [List.forIn_nil]
  exact wpAny_pure (wpAny_pure (hQ h' hc' hs'))
/-- .. the function with its own cell -/
def lamFL (X : Cx) (q : Str) (params : Arguments) (scope : Scope) (c' : Addr) (a : Str) (L : Addr) : NF := ⟨"<lambda>", q, params, [], scope, (a, L + 1) :: cloFrom X.env.cells scope.names [], c'⟩
theorem inv_startL {CX : CXT} {P : Program} {w : World} {K : PySem.W.Frag} {mg : Str → Option Value} {base : Heap} {N : List Str} {a y : Str} {F : NF} {cl : List (Str × Addr)} {f : Addr} {A : Around} {outer : List PySem.Env} {s : Shared} {H : Hp} {E : XK} {u : Value} {v : V} {ws : List (Option V)} {h₁ : Heap} (S : LScope N a y F.scope) (hcl : F.cl = (a, s.heap.objs.size + 1) :: cl) (hd : A.handled = none) (e0 : Env0 P w K mg base A outer s H) (r : RelV v u) (C : CellsAt cl [y] ws s.heap H)
    (hcell : h₁.IsCell (s.heap.objs.size + 1) (some u)) (hsb : Heap.SameBut (s.heap.objs.size + 1) ((s.heap.push { cls := .type "frame", data := .dict #[] }).push { cls := .type "cell", data := .cell none }) h₁) : Inv (ncx CX P w K mg base N F f A outer s H E) [] (startF N [v] ws) H { s with heap := h₁ } := by
  have kp : ∀ b o, s.heap.get? b = some o → h₁.get? b = some o := fun b o e => hsb.extBut b o (Nat.ne_of_lt (Nat.lt_succ_of_lt (Heap.lt_size e))) (Heap.get?_push_of_some _ (Heap.get?_push_of_some _ e))
  have hns : h₁.Ns s.heap.objs.size fun _ => none := ((Heap.Ns.new s.heap (.type "frame")).keeps fun b o e => Heap.get?_push_of_some _ e).sameBut hsb (Nat.ne_of_lt (Nat.lt_succ_self _))
  have cellK : ∀ {c : Addr} {v : Option Value}, s.heap.IsCell c v → h₁.IsCell c v := fun {c v} ⟨o, ho, hd⟩ => ⟨o, kp _ _ ho, hd⟩
  have noA : ∀ b : Addr, b ∉ (ncx CX P w K mg base N F f A outer s H E).ex := fun b z => absurd (show b ∈ ([] : List Addr) from z) (by simp)
  have clen := C.len
  have old : ∀ x c, cl.lookup x = some c → c < s.heap.objs.size := fun x c e => by
    obtain ⟨_, v, o, ho, _⟩ := C.all x c e
    exact Heap.lt_size ho
  have look : ∀ x c, F.cl.lookup x = some c → (x = a ∧ c = s.heap.objs.size + 1) ∨ (x ≠ a ∧ cl.lookup x = some c) := fun x c e => by
    rw [hcl, List.lookup_cons] at e
    by_cases h : x = a
    · subst h
      simp at e
      exact .inl ⟨rfl, e.symm⟩
    · have hb : (x == a) = false := by simpa using h
      rw [hb] at e
      exact .inr ⟨h, e⟩
  obtain ⟨cy, hcy, hcv⟩ := C.has 0 y rfl
  have ly : F.cl.lookup y = some cy := by
    rw [hcl, List.lookup_cons]
    have hb : (y == a) = false := by simpa using S.ne.symm
    rw [hb]
    exact hcy
  have la : F.cl.lookup a = some (s.heap.objs.size + 1) := by rw [hcl]; simp [List.lookup]
  have kia : F.scope.names.lookup a = some .cell := by rw [S.names]; simp [List.lookup]
  have kiy : F.scope.names.lookup y = some .free := by
    rw [S.names, List.lookup_cons]
    have hb : (y == a) = false := by simpa using S.ne.symm
    rw [hb]
    simp [List.lookup]
  have hpl : 2 ≤ N.length := by
    have q := congrArg List.length S.pre
    rw [List.length_take] at q
    simp at q
    omega
  refine ⟨⟨e0.mod, S.kind, rfl, rfl, Nat.le_refl _, fun x1 x2 c h1 h2 => ?_, fun x hx => ?_, fun y c z _ => ?_, fun _ => hd, Around.frames_deeper e0.frames, .inr ⟨rfl, rfl⟩, fun b z => absurd z (noA b), e0.bs, e0.bsz, fun b _ _ => noA b,
      fun b z => absurd z (noA b), e0.funs, e0.frf⟩,
    rfl, e0.bare, Un.kept kp, ⟨_, hns, fun i x v' e1 e2 e3 => ?_⟩, fun x c e => ?_, e0.hok.fresh (Nat.le_refl _), fun x c e => ?_, fun q hq => absurd (show q ∈ ([] : List (Addr × Obj)) ++ [] from hq) (by simp), e0.hok.kept kp, ?_⟩
  · rcases look x1 c h1 with ⟨p1, p2⟩ | ⟨p1, p2⟩ <;> rcases look x2 c h2 with ⟨q1, q2⟩ | ⟨q1, q2⟩
    · rw [p1, q1]
    · exact absurd (p2 ▸ old _ _ q2) (Nat.not_lt.mpr (Nat.le_succ _))
    · exact absurd (q2 ▸ old _ _ p2) (Nat.not_lt.mpr (Nat.le_succ _))
    · exact C.inj _ _ _ p2 q2
  · have hx : F.scope.names.lookup x = some .cell ∨ F.scope.names.lookup x = some .free := hx
    by_cases h : x = a
    · exact ⟨_, h ▸ la⟩
    · by_cases h2 : x = y
      · exact ⟨_, h2 ▸ ly⟩
      · rw [S.names] at hx
        have b1 : (x == a) = false := by simpa using h
        have b2 : (x == y) = false := by simpa using h2
        simp [List.lookup, b1, b2] at hx
  · have z : false = true := z
    cases z
  · have e1 : N[i]? = some x := e1
    unfold startF at e2
    have at0 : N[0]? = some a := by
      have q : (N.take 2)[0]? = some a := by rw [S.pre]; rfl
      rwa [List.getElem?_take_of_lt (by omega)] at q
    have at1 : N[1]? = some y := by
      have q : (N.take 2)[1]? = some y := by rw [S.pre]; rfl
      rwa [List.getElem?_take_of_lt (by omega)] at q
    match i, e1, e2 with
    | 0, e1, e2 =>
      rw [at0] at e1
      cases e1
      simp at e2
      subst e2
      exact ⟨u, r, .inr ⟨.inl kia, _, la, hcell⟩⟩
    | 1, e1, e2 =>
      rw [at1] at e1
      cases e1
      simp at clen
      rw [List.map_cons, List.map_nil, List.singleton_append, List.getElem?_cons_succ, List.getElem?_append_left (by omega)] at e2
      obtain ⟨u', ru, hu⟩ := hcv v' e2
      exact ⟨u', ru, .inr ⟨.inr kiy, _, ly, cellK hu⟩⟩
    | i + 2, e1, e2 =>
      simp at clen
      rw [List.map_cons, List.map_nil, List.singleton_append, List.getElem?_cons_succ, List.getElem?_append_right (by omega), List.getElem?_replicate] at e2
      split at e2 <;> cases e2
  · rcases look x c e with ⟨_, h⟩ | ⟨_, h⟩
    · exact ⟨_, h ▸ hcell⟩
    · obtain ⟨v, z⟩ := (C.all x c h).2
      exact ⟨v, cellK z⟩
  · rcases look x c e with ⟨_, h⟩ | ⟨_, h⟩
    · exact e0.hok.fresh (h ▸ Nat.le_succ _)
    · exact (C.all x c h).1
  · unfold startF
    show _ = N.length
    simp at clen
    rw [List.length_append, List.length_append, List.length_map, List.length_replicate]
    simp
    omega
/-- leads(e): the i-th slot holds the lambda at f; ws: what its captured names hold -/
def tLead (f c' : Addr) (q : Str) (i : Nat) (ws : List (Option V)) (N1 : List Str) (ta : TA) (tb : TE) : TE := fun σz Hz Q => σz[i]? = some (some (.ref f)) ∧
  ta σz Hz fun vs H2 => ∃ v, vs = [v] ∧ H2 c' = some (CodeO c' q) ∧ tb (startF N1 [v] ws) H2 Q
theorem pe_lead {Ng N1 : List Str} {qg a y ln q : Str} {sg scope : Scope} {g f c' : Addr} {cdg pm ctv : Value} {params : Arguments} {body e1 : Expr} {js : List Nat} {k i : Nat} {ta : TA} {tb : TE} {p1 p2 : Pos} (I : Inv X pins σ H s) (S : LScope N1 a y scope)
    (cp : Caps X (cloFrom X.env.cells scope.names []) [y] js) (hf : s.heap.get? f = some (PySem.W.kla_obj "<lambda>" q params body scope (cloFrom X.env.cells scope.names []) pm c' ctv)) (hfn : H f = none) (hfr : f ∉ frs X.stack)
    (hbind : ∀ (cl : List (Str × Addr)) (pm cd ct u : Value), bindArgs (PySem.W.kla_fn "<lambda>" q params body scope cl pm cd ct) ⟨[u], []⟩ = pure [(a, u)]) (hr : Room (k + 1) (X.A.deeper (envOfC qg sg s.heap.objs.size g cdg)))
    (hbody : ∀ (A : Around) (outer : List PySem.Env) (s : Shared) (H : Hp), Room k (A.deeper (NdefX.envF (lamFL X q params scope c' a s.heap.objs.size) f s.heap.objs.size)) → PE (ncx CX0 X.prog X.w X.K X.mg X.base N1 (lamFL X q params scope c' a s.heap.objs.size) f A outer s H E0) body tb)
    (hN : Ng[i]? = some ln) (hv : Vis sg ln) (ha : PA (cxOf CX0 X.prog X.w X.K X.mg X.base Ng qg sg g cdg X.A X.stack s H E0).nox [e1] ta) (hd : (ln == ("__debug__" : Str)) = false := by decide) (hcd : (ln == ("__classdict__" : Str)) = false := by decide)
    (he : starEach [e1] (envOfC qg sg s.heap.objs.size g cdg) = (false, eval e1 (envOfC qg sg s.heap.objs.size g cdg)) :: starEach [] (envOfC qg sg s.heap.objs.size g cdg) := by rfl) :
    PE (cxOf CX0 X.prog X.w X.K X.mg X.base Ng qg sg g cdg X.A X.stack s H E0).nox (.Call (.Name ln p1) [e1] [] p2) (tLead f c' q i (js.map (slotAt σ)) N1 ta tb) := by
  refine ⟨fun pz sz σz Hz Q Iz h => ?_⟩
  obtain ⟨hs, ht⟩ := h
  refine wpAny_Call_Name_kw (L2.thn ((pe_var (pos := p1) (i := i) hN hv hd hcd).run pz sz σz Hz (fun v H1 => v = .ref f ∧ H1 = Hz) Iz ⟨.ref f, hs, rfl, rfl⟩) fun u s1 ⟨v, H1, I1, r1, q1⟩ => ?_)
  obtain ⟨ev, eH⟩ := q1
  subst ev
  rw [eH] at I1
  obtain rfl : u = Value.ref f := r1
  have at_ : ∀ {pz : List (Addr × Obj)} {σz : L2.St} {H2 : Hp} {s2 : Shared}, Inv (cxOf CX0 X.prog X.w X.K X.mg X.base Ng qg sg g cdg X.A X.stack s H E0).nox pz σz H2 s2 →
      s2.heap.get? f = some (PySem.W.kla_obj "<lambda>" q params body scope (cloFrom X.env.cells scope.names []) pm c' ctv) := fun J => J.base.keep f _ hf hfn hfr (fun z => nomatch (show f ∈ ([] : List Addr) from z))
  refine PySem.W.callWith_F (first := []) ⟨_, _, _, _, at_ I1⟩ (L2.thn (ha.run p2 pz s1 σz Hz _ I1 ht) fun us s2 ⟨vs, H2, I2, r, w, evs, hc, q2⟩ => ⟨⟨_, _, _, _, at_ I2⟩, ?_⟩) he (by rfl)
  subst evs
  show wpAny _ _ (call (.ref f) us) _ _ _
  have rc : codeAny (model X.prog X.w) (X.A.deeper (envOfC qg sg s.heap.objs.size g cdg)) (.call (.ref f) ⟨us, []⟩) (CR CX0 (envOfC qg sg s.heap.objs.size g cdg :: X.stack) X.prog X.w H2 s2 Q E0) s2 := by
    cases r with
    | @cons _ u1 _ us1 ru rr =>
      cases rr
      refine PySem.W.kla_callFunE hr.depth (at_ I2) rfl S.co S.gen rfl (NdefX.codeO_at I2.hok hc) ?_
      rw [hbind]
      refine wpAny_pure (newEnv_l S.kind S.names fun h₁ hcell hsb => ⟨I2.nolimit.keeps fun b o e => hsb.extBut b o (Nat.ne_of_lt (Nat.lt_succ_of_lt (Heap.lt_size e))) (Heap.get?_push_of_some _ (Heap.get?_push_of_some _ e)), ?_⟩)
      show codeAny _ _ (.expr body (NdefX.envF (lamFL X q params scope c' a s2.heap.objs.size) f s2.heap.objs.size)) _ _
      have C : CellsAt (cloFrom X.env.cells scope.names []) [y] (js.map (slotAt σ)) s2.heap H2 := cells_later (Z := (cxOf CX0 X.prog X.w X.K X.mg X.base Ng qg sg g cdg X.A X.stack s H E0).nox) (cells_of I cp) (fun b z => nomatch (show b ∈ ([] : List Addr) from z)) I2
      have J := inv_startL (CX := CX0) (F := lamFL X q params scope c' a s2.heap.objs.size) (N := N1) (f := f) (E := E0) S rfl hr.hd I2.env0 ru C hcell hsb
      refine PySem.W.kla_codeExpr (wpAny_mono ((hbody _ _ s2 H2 (hr.deeper _)).run [] _ _ H2 Q J q2) (fun v s' hq => ?_) fun e s' hq => hq)
      obtain ⟨w', H', J', rv, q⟩ := hq
      exact ⟨w', H', J'.os, J'.bare, J'.base, J'.hok, rv, q⟩
  refine wpAny_call (codeAny_mono rc fun r s' hq => ?_)
  cases r with
  | error e => exact (show False from hq).elim
  | ok fl =>
    cases fl with
    | ret u => exact I2.after hq
    | next => exact False.elim hq
    | brk => exact False.elim hq
    | cont => exact False.elim hq
end
/-- x(e, lambda a: body): BT is what x's body reads, by the reading of the lambda's call -/
def tGive (P : Addr) (q : Str) (N1 Ng : List Str) (js : List Nat) (ta : TA) (tb t0 : TE) (BT : TE → TS) : TE := fun σ H Q => t0 σ H fun v H0 => TabS H0 P q ∧ ∀ f c' H1, LamMade H0 H1 P q c' →
  BT (tLead f c' q 1 (js.map (slotAt σ)) N1 ta tb) { nx := fun _ H' => Q .non H', rt := Q } (L2.start Ng [v, .ref f]) H1
section
variable {X : Cx}
theorem pe_give {x a1 ln a y q : Str} {g c P : Addr} {k : Nat} {pg : Arguments} {bg : List Stmt} {sg scope : Scope} {dV kV doc pm cdv ct oc : Value} {an od : Option Addr} {osl : Array (Option Value)} {Ng N1 : List Str} {js : List Nat} {params : Arguments} {body e0 e1 : Expr} {ta : TA} {tb t0 : TE} {BT : TE → TS} {p lpos pos p1 p2 : Pos}
    (hg : Gl X x) (hm : X.mg x = some (.ref g)) (hk : PySem.W.keepIn X.K (.ref g) = true) (lk : X.K.lookup g = some ⟨oc, od, .func (PySem.W.fnOf x x pg bg sg dV kV doc pm an cdv ct), osl⟩) (hcg : PySem.W.codeIn X.K cdv x = true) (hb : L2.Binds X.K (PySem.W.fnOf x x pg bg sg dV kV doc pm an cdv ct) [a1, ln] [])
    (Sg : FnScope Ng [a1, ln] sg) (hN : Ng[1]? = some ln) (hv : Vis sg ln) (ht0 : PE X e0 t0) (TB : LamX.TabB X.base X.mg c P) (hcode : X.env.code = .ref c) (hq : X.env.qual ++ "<lambda>" = q) (hdef : defaultsOf params X.env = ([], [])) (S : LScope N1 a y scope)
    (hfree : ∀ y ∈ scope.names, y.2 = .free → X.env.scope.names.lookup y.1 = some .cell ∨ X.env.scope.names.lookup y.1 = some .free) (hjs : js.map (fun j => X.N[j]?) = [some y]) (hr : Room (k + 2) X.A)
    (hbind : ∀ (cl : List (Str × Addr)) (pm cd ct u : Value), bindArgs (PySem.W.kla_fn "<lambda>" q params body scope cl pm cd ct) ⟨[u], []⟩ = pure [(a, u)])
    (hbody : ∀ (f c' : Addr) (A : Around) (outer : List PySem.Env) (s : Shared) (H : Hp), Room k (A.deeper (NdefX.envF (lamFL X q params scope c' a s.heap.objs.size) f s.heap.objs.size)) → PE (ncx CX0 X.prog X.w X.K X.mg X.base N1 (lamFL X q params scope c' a s.heap.objs.size) f A outer s H E0) body tb)
    (hW : ∀ (s : Shared) (H : Hp), PA (cxOf CX0 X.prog X.w X.K X.mg X.base Ng x sg g cdv X.A X.stack s H E0).nox [e1] ta ∧ ∀ tl, PE (cxOf CX0 X.prog X.w X.K X.mg X.base Ng x sg g cdv X.A X.stack s H E0).nox (.Call (.Name ln p1) [e1] [] p2) tl → Room (k + 1) (X.A.deeper (envOfC x sg s.heap.objs.size g cdv)) → PSs (cxOf CX0 X.prog X.w X.K X.mg X.base Ng x sg g cdv X.A X.stack s H E0).nox bg (BT tl))
    (he : starEach [e0, .Lambda params body scope lpos] X.env = (false, eval e0 X.env) :: starEach [.Lambda params body scope lpos] X.env := by rfl)
    (he2 : starEach [.Lambda params body scope lpos] X.env = (false, eval (.Lambda params body scope lpos) X.env) :: starEach [] X.env := by rfl)
    (hdb : (x == ("__debug__" : Str)) = false := by decide) (hd : (ln == ("__debug__" : Str)) = false := by decide) (hcd : (ln == ("__classdict__" : Str)) = false := by decide)
    (hs1 : ∀ s : Shared, starEach [e1] (envOfC x sg s.heap.objs.size g cdv) = (false, eval e1 (envOfC x sg s.heap.objs.size g cdv)) :: starEach [] (envOfC x sg s.heap.objs.size g cdv) := by intro s; rfl) :
    PE X (.Call (.Name x p) [e0, .Lambda params body scope lpos] [] pos) (tGive P q N1 Ng js ta tb t0 BT) := by
  refine ⟨fun pins s σ H Q I h => ?_⟩
  refine wpAny_Call_Name_kw (ld_glob I hg hm ?_ hdb)
  refine PySem.W.callWith_K (h₀ := X.base) I.ok.mod.kin hk ?_ he (by rw [he2]; rfl)
  rw [he]
  show wpAny _ _ (spliced ((false, eval e0 X.env) :: backTo pos (starEach [.Lambda params body scope lpos] X.env))) _ _ s
  refine Calls.spliced_cons (L2.thn (ht0.run pins s σ H _ I h) fun u0 s0 ⟨v0, H0, I0, r0, hT, h0⟩ => ?_)
  rw [he2]
  show wpAny _ _ (spliced ((false, eval (.Lambda params body scope lpos) X.env) :: backTo pos (starEach [] X.env))) _ _ s0
  refine Calls.spliced_cons (lam_mk I0 TB hcode hq hT hdef (fun y hy e => (hfree y hy e).elim (fun k => I0.ok.has _ (.inl k)) fun k => I0.ok.has _ (.inr k)) fun f c' pm' ctv H1 s' I1 LM hf hfn hfr => ?_)
  refine Calls.spliced_nil ⟨I1.kIn, ?_⟩
  have rc : codeAny (model X.prog X.w) X.A (.call (.ref g) ⟨[u0, .ref f], []⟩) (CR CX0 X.stack X.prog X.w H1 s' Q E0) s' := by
    refine LamX.run_ofS (N := Ng) (ps := [a1, ln]) (us := [u0, .ref f]) (vs := [v0, .ref f]) lk hcg Sg hr I1.env0 (hb s' [u0, .ref f] I1.kIn rfl) (.cons r0 (.cons rfl .nil)) rfl fun hr' => ?_
    obtain ⟨hpa, hps⟩ := hW s' H1
    exact ⟨_, PSs.nox (hps _ (pe_lead I1 S (Caps.made I1.ok hfree (fun z hz => by rw [List.mem_singleton.mp hz, S.names]; simp) (by simpa using hjs)) hf hfn hfr hbind hr' (hbody f c') hN hv hpa hd hcd (hs1 s')) hr'), h0 f c' H1 LM⟩
  refine wpAny_call (codeAny_mono rc fun r s2 hq => ?_)
  cases r with
  | error e => exact (show False from hq).elim
  | ok fl =>
    cases fl with
    | ret u => exact I1.after hq
    | next => exact False.elim hq
    | brk => exact False.elim hq
    | cont => exact False.elim hq
end
end NB
set_option maxHeartbeats 4000000
/-! for i, x in enumerate(a tuple) -/
namespace NB
open PySem PySem.Spec PyProof.Rows L2
open Sem (wp)
open AutoSeq1 (wpAny_loadPart')

theorem meets_enum_tup (l : Addr) (items : Array Value) (n : Nat) (dct : Option Addr) (sl : Array (Option Value)) :
    Meets (Builtin.«enumerate.__new__» ⟨[.type "enumerate", .ref l], []⟩) (fun _ R s => s.heap.get? l = some { cls := .type "tuple", dict := dct, data := .seq items n, slots := sl } ∧ R (.ok (.ret (.ref (s.heap.push { cls := .type "tuple_iterator", data := .fields #[.ref l, .int 0 0] }).objs.size)))
        { s with heap := (s.heap.push { cls := .type "tuple_iterator", data := .fields #[.ref l, .int 0 0] }).push { cls := .type "enumerate", data := .fields #[.none, .bool false, .ref s.heap.objs.size, rawInt 0, .none, .none] } }) :=
  .of_wp fun prog w A R s h => by
    obtain ⟨hp, g, d, tk, os⟩ := s
    obtain ⟨hl, h⟩ := h
    have hsub := sub_enumerate
    have hT : Heap.IsTuple (Shared.heap ⟨hp, g, d, tk, os⟩) l items := ⟨_, hl, rfl, n, rfl⟩
    wp_walk using wpAny_loadPart' hl
    refine wpAny_stack_any fun st => wpAny_pure ?_
    split
    · rename_i c _ _ _ _ _
      cases (c == Value.type "enumerate") <;> (wp_walk using wpAny_loadPart' hl, wpAny_pyIter_tuple hT) <;> exact ⟨_, rfl, h⟩
    · wp_walk using wpAny_loadPart' hl, wpAny_pyIter_tuple hT
      exact ⟨_, rfl, h⟩
section
variable {prog : Program} {w : World} {A : Around} {E : Value → Shared → Prop} {s : Shared}
theorem call_enum_tup {l : Addr} {items : Array Value} {Q : Value → Shared → Prop} (hT : s.heap.IsTuple l items)
    (h : ∀ h', IsEnum h' (s.heap.objs.size + 1) s.heap.objs.size 0 .none → h'.IsTupleIter s.heap.objs.size l 0 → (∀ b o, s.heap.get? b = some o → h'.get? b = some o) → Q (.ref (s.heap.objs.size + 1)) { s with heap := h' }) :
    wpAny (model prog w) A (call (.type "enumerate") [.ref l]) Q E s := by
  obtain ⟨⟨c, dct, dt, sl⟩, hl, hc, n, hd⟩ := hT
  obtain rfl : c = .type "tuple" := hc
  obtain rfl : dt = .seq items n := hd
  refine callType_new F.called_enumerate (by decide) (F.typeCall_enumerate_1 _) (F.newCall_enumerate_1 _) (fun obj => F.args_object_init_2 obj _) F.entry_enumerate_new (meets_enum_tup l items n dct sl) ⟨hl, ?_⟩
  generalize hI : ({ cls := .type "tuple_iterator", data := .fields #[.ref l, .int 0 0] } : Obj) = oI
  generalize hE : ({ cls := .type "enumerate", data := .fields #[.none, .bool false, .ref s.heap.objs.size, rawInt 0, .none, .none] } : Obj) = oE
  have fI : oI.data ≠ .freed := by
    rw [← hI]
    intro z
    cases z
  have hz : (s.heap.push oI).objs.size = s.heap.objs.size + 1 := Heap.size_push ..
  have gE : ((s.heap.push oI).push oE).get? (s.heap.objs.size + 1) = some oE := by
    have q := Heap.get?_push_size (s.heap.push oI) (o := oE) (by rw [← hE]; rfl)
    rwa [hz] at q
  have gI : ((s.heap.push oI).push oE).get? s.heap.objs.size = some oI := Heap.get?_push_of_some _ (Heap.get?_push_size _ (by rw [← hI]; rfl))
  show _ ∧ _
  rw [hz]
  refine ⟨⟨_, gE, by rw [← hE]⟩, h _ ?_ ⟨_, gI, by rw [← hI], by rw [← hI]; rfl⟩ fun b o x => Heap.get?_push_of_some _ (Heap.get?_push_of_some _ x)⟩
  show _ = _
  rw [gE, ← hE]
end
def IteT (K : PySem.W.Frag) (a : Addr) : It :=
  ⟨fun i H => ∃ (xs : List V) (x : V), SqT K H a xs ∧ xs[i]? = some x, fun i H v H' => ∃ T x, v = .ref T ∧ H T = none ∧ H' = upd H T (.tup [.int (i : Nat), x]) ∧ ∀ xs, SqT K H a xs → xs[i]? = some x, fun i H => ∃ xs : List V, SqT K H a xs ∧ xs.length ≤ i⟩
theorem turn_enumT {P : Program} {w : World} {K : PySem.W.Frag} {elts : List Expr} {kk : Nat} {tpos : Pos} (a e it : Addr) :
    Turn P w K (.Tuple elts kk tpos) (IteT K a) [e, it] e (fun i h => (∃ old, IsEnum h e it ((i : Nat) : Int) old) ∧ h.IsTupleIter it a i ∧ e ≠ it ∧ e ≠ a ∧ a ≠ it) where
  mem := by simp
  obj := fun i h st b hb => by
    obtain ⟨⟨old, he⟩, ⟨o, ho, hc, hd⟩, _⟩ := st
    rcases (show b = e ∨ b = it by simpa using hb) with z | z
    · rw [z]
      refine ⟨_, he, fun v q => ?_⟩
      cases q
    · exact ⟨o, by rw [z]; exact ho, fun v q => by rw [hd] at q; cases q⟩
  keep := fun i h h' st k => by
    obtain ⟨⟨old, he⟩, ⟨o, ho, r⟩, hne⟩ := st
    exact ⟨⟨old, k e (by simp) _ he⟩, ⟨o, k it (by simp) o ho, r⟩, hne⟩
  item := by
    intro X hP hw hK hc i pins s σ H E I hf st hg
    subst hP hw hK
    obtain ⟨⟨old, he⟩, hit, hne, hea, hai⟩ := st
    obtain ⟨xs, x, hq, hx⟩ := hg
    obtain ⟨its, rv, p, hz⟩ := I.tuple hq
    obtain ⟨u, hu, ru⟩ := rv.get hx
    have hel : e < s.heap.objs.size := Heap.lt_size he
    have hil : it < s.heap.objs.size := by
      obtain ⟨_, q, _⟩ := hit
      exact Heap.lt_size q
    have hu2 : its.toArray[i]? = some u := by simpa using hu
    have D := Draws.tuple (prog := X.prog) (w := X.w) (A := X.A.in1) (I.ok.hd hc) it a hai its.toArray
    refine wpAny_pyNext_enum_itemD D he ⟨hit, p⟩ ?_ hne (by simp [hne, hea]) fun x' h' tk hx' ho hst' hT hsz hk => ?_
    · have q := (List.getElem?_eq_some_iff.mp hu).1
      simpa using q
    rw [hu2] at hx'
    cases hx'
    refine ⟨_, rfl, wpAny_letOwnedTupleGo_enum (s := { s with heap := h', toks := tk + 1 }) ho fun h2 he' sb => ?_⟩
    have hT2 : h2.get? s.heap.objs.size = some { cls := .type "tuple", data := .seq #[.int i tk, u] } := (sb.2 _ (Nat.ne_of_gt hel)).trans hT
    have new : ObjOk X.prog X.w (upd H s.heap.objs.size (.tup [.int (i : Nat), x])) h2 s.heap.objs.size (.tup [.int (i : Nat), x]) := ⟨show 2 ≤ sizeLine by decide, [.int i tk, u], .cons ⟨_, rfl⟩ (.cons ru .nil), ⟨_, hT2, rfl, _, rfl⟩⟩
    have J := I.turnedNew (t' := tk + 1) (h' := h2) (ch := [e, it]) (fun b ob hb q => by
      have b1 : b ≠ e := fun z => hb (by simp [z])
      have b2 : b ≠ it := fun z => hb (by simp [z])
      exact (sb.2 b b1).trans (hk b ob b1 b2 q)) hf (Nat.le_refl _) new
    refine ⟨.ref s.heap.objs.size, _, J, rfl, ⟨_, x, rfl, I.hok.fresh (Nat.le_refl _), rfl, fun ys hy => by rw [I.tuple_inj hy hq]; exact hx⟩, ⟨⟨u, ?_⟩, ?_, hne, hea, hai⟩, fun b hb => ?_⟩
    · rw [show ((i + 1 : Nat) : Int) = (i : Int) + 1 by omega]
      exact he'
    · obtain ⟨⟨o, h1, h3⟩, _⟩ := hst'
      exact ⟨o, (sb.2 it (Ne.symm hne)).trans h1, h3⟩
    · have hb' : b < s.heap.objs.size := by
        rcases (show b = e ∨ b = it by simpa using hb) with z | z <;> rw [z]
        · exact hel
        · exact hil
      rw [upd_ne (Nat.ne_of_lt hb')]
      exact (hf b hb).1
  done := by
    intro X hP hw hK hc i pins s σ H E I hf st hg
    subst hP hw hK
    obtain ⟨⟨old, he⟩, hit, hne, hea, hai⟩ := st
    obtain ⟨xs, hq, hx⟩ := hg
    obtain ⟨its, rv, p, hz⟩ := I.tuple hq
    obtain ⟨f0, f1, f2, f3, f4, f5⟩ := hf it (by simp)
    have hl := rv.length
    have D : Draws X.prog X.w X.A.in1 it [it, a] i (fun _ _ => True) (fun j h => j = i ∧ h.IsTupleIter it a i ∧ h.IsTuple a its.toArray) := by
      refine ⟨fun _ h st => ?_, fun _ _ _ st k => ?_, fun j s Q E hj st _ => absurd st.1 (Nat.ne_of_lt hj), fun s Q E st hE => ?_⟩
      · obtain ⟨o, ho, _⟩ := st.2.1
        exact ⟨o, ho⟩
      · obtain ⟨e1, ⟨o, ho, r⟩, ⟨o2, ho2, r2⟩⟩ := st
        exact ⟨e1, ⟨o, k it (by simp) o ho, r⟩, ⟨o2, k a (by simp) o2 ho2, r2⟩⟩
      · exact wpAny_nextOf_tuple_end (A := X.A.in1) (I.ok.hd hc) st.2.1 st.2.2 (by simp; omega) hE
    exact wpAny_pyNext_enum_endD D he ⟨rfl, hit, p⟩ fun h' eb => ⟨rfl, I.turned (t' := s.toks) (fun b o hb q => eb b o hb q) f0 f1 f3 f4 f5⟩
  self := fun A i s Q E st h => let ⟨⟨_, he⟩, _⟩ := st; wpAny_pyIter_enum he h
def iEnT (K : PySem.W.Frag) (ta : TA) : TI := fun σ H R => ta σ H fun vs H1 => ∃ a xs, vs = [.ref a] ∧ SqT K H1 a xs ∧ R (IteT K a) H1
theorem pi_enT {X : Cx} {e : Expr} {ta : TA} {p pos tpos : Pos} {elts : List Expr} {kk : Nat} (hg : Gl X "enumerate") (hm : X.mg "enumerate" = none) (ha : PA X [e] ta) (hs : starEach [e] X.env = [(false, eval e X.env)] := by rfl) :
    PI X (.Tuple elts kk tpos) (.Call (.Name "enumerate" p) [e] [] pos) (iEnT X.K ta) := by
  refine ⟨fun pins s σ H R I h => Call_ (ld_blt I hg hm boot_enumerate (PyProof.Rows.callWith_type1 (L2.thn (ha.run pos pins s σ H _ I h) fun us s1 ⟨vs, H1, I1, r1, a, xs, ex, hq, q⟩ => ?_) hs rfl))⟩
  subst ex
  cases r1 with
  | cons r rr =>
    cases rr
    cases r
    obtain ⟨its, rv, p', hz⟩ := I1.tuple hq
    have la : a < s1.heap.objs.size := by
      obtain ⟨o, ho, _⟩ := id p'
      exact Heap.lt_size ho
    refine call_enum_tup p' fun h' he hit hk => wpAny_pyIter_enum he ?_
    have I2 := I1.kept (h' := h') (t' := s1.toks) hk
    refine ⟨s1.heap.objs.size + 1, [s1.heap.objs.size + 1, s1.heap.objs.size], _, _, H1, rfl, I2, turn_enumT a (s1.heap.objs.size + 1) s1.heap.objs.size, ⟨⟨.none, he⟩, hit, Nat.succ_ne_self _, Nat.ne_of_gt (Nat.lt_succ_of_lt la), Nat.ne_of_lt la⟩, fun b hb => ?_, q⟩
    have hle : s1.heap.objs.size ≤ b := by
      rcases (show b = s1.heap.objs.size + 1 ∨ b = s1.heap.objs.size by simpa using hb) with z | z <;> rw [z]
      · exact Nat.le_add_right _ _
      · exact Nat.le_refl _
    exact I1.fpOk hle (I1.hok.fresh hle)
end NB
set_option maxHeartbeats 4000000
/-! set(a list): of ints; of tuples of ints, where few are unlike -/
namespace NB
open PySem PySem.Spec PyProof.Rows L2
section
variable {pr : Program} {w : World} {A : Around} {E : Value → Shared → Prop} {s : Shared}
abbrev set0 (w : World) : Obj := { cls := .type "set", dict := none, data := .set #[] 0 (.fresh 0 0 (!w.params.followText "set-order")) }
/-- the walk of the list is left open -/
theorem call_set_G {l : Addr} {xs : Array Value} {C : Heap → Prop} {Q : Value → Shared → Prop} (hL : s.heap.IsList l xs)
    (loop : ∀ (ol : Obj) (R : Result → Shared → Prop), ol = { cls := .type "list_iterator", data := .fields #[.ref l, .int 0 0] } → (∀ (h' : Heap) (tk : Nat), C h' → R (.ok (.ret .none)) { s with heap := h', toks := tk }) →
      codeAny (model pr w) A.in1.in1 (.builtin "set.update.loop" ⟨[.ref s.heap.objs.size, .ref (s.heap.objs.size + 1)], []⟩) R { s with heap := (s.heap.push (set0 w)).push ol })
    (fin : ∀ (h' : Heap) (tk : Nat), C h' → Q (.ref s.heap.objs.size) { s with heap := h', toks := tk }) : wpAny (model pr w) A (call (.type "set") [.ref l]) Q E s := by
  obtain ⟨c0, tl0, hmro⟩ := F.called_set.mro
  have f1 := F.called_set.made
  have f2 := F.called_set.sub
  refine wpAny_call (codeAny_of_tree ?_)
  show wpAny _ _ (callAny (.type "set") _) _ _ s
  refine wpAny_pure ⟨Code.quiet_builtin _ (by decide +kernel), (codeAny_builtin F.entry_type_call ?_)⟩
  rw [Around.under_plain (weight_type_call_type "set" [(Value.ref l)] []) rfl]
  have f3 := F.called_set.notType
  have f4 := F.called_set.canCreate
  have f5 := F.typeCall_set_1 (Value.ref l)
  repeat (any_goals (first | assumption | wp_step))
  refine codeAny_mono (code_set_led1 (P := pr) (.ref l) (E := E) (Q₁ := fun v s1 => v = .ref s.heap.objs.size ∧ s1 = { s with heap := s.heap.push (set0 w) }) ⟨rfl, rfl⟩) fun r s1 hr => ?_
  cases r with
  | error e => exact hr
  | ok fl =>
    cases fl with
    | ret v =>
      obtain ⟨rfl, rfl⟩ := hr
      have gS : (s.heap.push (set0 w)).get? s.heap.objs.size = some (set0 w) := Heap.get?_push_size _ rfl
      have tS : Shared.TypeIs { s with heap := s.heap.push (set0 w) } (.ref s.heap.objs.size) "set" := ⟨_, gS, rfl⟩
      have f6 := F.called_set.init.lookup
      have f7 := F.called_set.init.bind (Value.ref s.heap.objs.size)
      repeat (any_goals (first | assumption | wp_step))
      refine codeAny_mono (codeAny_call_builtin (R := wants (fun v s2 => v = .none ∧ ∃ h' tk, s2 = { s with heap := h', toks := tk } ∧ C h') E) F.called_set.init.plain F.entry_set_init (check_set_init_1 tS ?_)) fun r2 s2 hr2 => ?_
      · obtain ⟨⟨k1, k2, k3, k4⟩, gl, hcl, nl, hdl⟩ := hL
        obtain rfl : k1 = .type "list" := hcl
        obtain rfl : k3 = .seq xs nl := hdl
        have gl2 : (s.heap.push (set0 w)).get? l = some { cls := .type "list", dict := k2, data := .seq xs nl, slots := k4 } := Heap.get?_push_of_some _ gl
        have e1 := F.sub_list_set
        have e2 := F.sub_list_frozenset
        have e3 : (Value.type "list" == .type "dict") = false := by decide
        have hL1 : (s.heap.push (set0 w)).IsList l xs := ⟨_, gl2, rfl, nl, rfl⟩
        unfold Builtin.«set.__init__» noKeywords Builtin.Frozenset.updateFrom
        generalize hPI : pyIter = PI
        wp_walk
        subst hPI
        refine wpAny_pyIter_list hL1 ?_
        refine wpAny_bind (wpAny_runValue ?_)
        have hz1 : (s.heap.push (set0 w)).objs.size = s.heap.objs.size + 1 := Heap.size_push ..
        rw [hz1]
        refine loop _ _ rfl fun h' tk hC => ?_
        show wpAny _ _ _ _ _ _
        refine wpAny_pure ?_
        show wpAny _ _ (ret .none) _ _ _
        exact wpAny_pure ⟨rfl, h', tk, rfl, hC⟩
      · cases r2 with
        | error e => exact hr2
        | ok f2' =>
          cases f2' with
          | ret v =>
            obtain ⟨rfl, h', tk, rfl, hC⟩ := hr2
            repeat (any_goals (first | assumption | wp_step))
            exact fin h' tk hC
          | _ => exact hr2.elim
    | _ => exact hr.elim
end
end NB
set_option maxHeartbeats 4000000
/-! set(a list), the rules -/
namespace NB
open PySem PySem.Spec PyProof.Rows L2
section
variable {pr : Program} {w : World} {A : Around} {E : Value → Shared → Prop} {s : Shared}
theorem ints_get : ∀ {us : List Value} {ns : List Int} {i : Nat} {v : Value}, IntsAre us ns → us[i]? = some v → ∃ k t, ns[i]? = some k ∧ v = .int k t
  | _, _, _, _, .nil, h => by simp at h
  | _, _, 0, _, .cons n t r, h => ⟨n, t, rfl, (Option.some.inj (by simpa using h)).symm⟩
  | _, _, i + 1, _, .cons n t r, h => by
    obtain ⟨k, t', h1, h2⟩ := ints_get (i := i) r (by simpa using h)
    exact ⟨k, t', by simpa using h1, h2⟩
theorem call_set_ints {l : Addr} {xs : Array Value} {ns : List Int} {Q : Value → Shared → Prop} (hh : A.handled = none) (hL : s.heap.IsList l xs) (hx : IntsAre xs.toList ns) (hb : ns.length + 1 < scanBound)
    (fin : ∀ (h' : Heap) (tk c : Nat), SetR w h' s.heap.objs.size (fun j => decide (j ∈ ns)) c → c ≤ ns.length → (∀ b o, s.heap.get? b = some o → h'.get? b = some o) → Q (.ref s.heap.objs.size) { s with heap := h', toks := tk }) : wpAny (model pr w) A (call (.type "set") [.ref l]) Q E s := by
  have hz : xs.size = ns.length := by
    have q := IntsAre.length hx
    rwa [Array.length_toList] at q
  have hl : l < s.heap.objs.size := by
    obtain ⟨o, ho, _⟩ := hL
    exact Heap.lt_size ho
  have z1 : (s.heap.push (set0 w)).objs.size = s.heap.objs.size + 1 := Heap.size_push ..
  refine call_set_G (C := fun h' => ∃ c, SetR w h' s.heap.objs.size (fun j => decide (j ∈ ns)) c ∧ c ≤ ns.length ∧ ∀ b o, s.heap.get? b = some o → h'.get? b = some o) hL (fun ol R e k => ?_) fun h' tk ⟨c, h1, h2, h3⟩ => fin h' tk c h1 h2 h3
  have gI : ((s.heap.push (set0 w)).push ol).get? (s.heap.objs.size + 1) = some ol := by
    have q := Heap.get?_push_size (s.heap.push (set0 w)) (o := ol) (by rw [e]; rfl)
    rwa [z1] at q
  have gS : ((s.heap.push (set0 w)).push ol).get? s.heap.objs.size = some (set0 w) := Heap.get?_push_of_some _ (Heap.get?_push_size _ rfl)
  have kp : ∀ b o, s.heap.get? b = some o → ((s.heap.push (set0 w)).push ol).get? b = some o := fun b o q => Heap.get?_push_of_some _ (Heap.get?_push_of_some _ q)
  refine set_update_ints ((Walks.list (A := A.in1.in1.in1) hh (s.heap.objs.size + 1) l (Nat.ne_of_lt (Nat.lt_succ_of_lt hl)) xs).toS) s.heap.objs.size ?_ ns hz hb (fun i v hv => ?_) (xs.size - 0) 0 _ rfl (Nat.zero_le _) ⟨?_, ?_⟩ ⟨0, Nat.le_refl _, ?_⟩ fun s' c hm hc hS => ?_
  · simp only [List.mem_cons, List.not_mem_nil, or_false, not_or]
    exact ⟨Nat.ne_of_lt (Nat.lt_succ_self _), Nat.ne_of_gt hl⟩
  · have q : xs.toList[i]? = some v := by rw [Array.getElem?_toList]; exact hv
    exact ints_get hx q
  · exact ⟨ol, gI, by rw [e], by rw [e]; rfl⟩
  · obtain ⟨o, ho, r⟩ := hL
    exact ⟨o, kp l o ho, r⟩
  · exact setR_new_at gS
  · obtain ⟨h', g2, d', tk', os'⟩ := s'
    obtain rfl : g2 = s.gens := hm.gens
    obtain rfl : d' = s.drawn := hm.drawn
    obtain rfl : os' = s.os := hm.os
    refine k h' tk' ⟨c, hS, by omega, fun b o q => hm.heap b o (fun hb => ?_) (kp b o q)⟩
    have lb := Heap.lt_size q
    simp only [List.mem_cons, List.not_mem_nil, or_false] at hb
    rcases hb with z | z <;> rw [z] at lb
    · exact Nat.lt_irrefl _ lb
    · exact Nat.lt_irrefl _ (Nat.lt_of_succ_lt lb)
/-- few are unlike -/
def FewD (ks : List (Addr × List Int)) : Prop := ∀ L : List (Addr × List Int), (∀ p ∈ L, p ∈ ks) → (L.map (·.2)).Nodup → L.length + 1 < 64
theorem upd_tups {I : Addr} {fp wr : List Addr} {G : Array GenState → Array GenState → Prop} {n : Nat} {Pv : Nat → Value → Prop} {St : Nat → Shared → Prop} {R : Result → Shared → Prop} (W : WalksS pr w A.in1 I fp wr G n Pv St) (S : Addr) (hSf : S ∉ fp) (ks : List (Addr × List Int)) (hn : n = ks.length) (few : FewD ks)
    (hval : ∀ i v, Pv i v → ∃ p, ks[i]? = some p ∧ v = .ref p.1) (h0 : Heap) (hk : ∀ p ∈ ks, IsT pr w h0 p.2 p.1) (hS0 : h0.get? S = none) (hw0 : ∀ b ∈ wr, h0.get? b = none) (hu : A.in1.units < cLine) :
    ∀ (k i : Nat) (s : Shared), n - i = k → i ≤ n → St i s → (∀ b o, h0.get? b = some o → s.heap.get? b = some o) → (∃ L es ep t, SetTR pr w s.heap S L es ep t ∧ Got ks i L) →
      (∀ s' L es ep t, Moved (S :: wr) G s s' → SetTR pr w s'.heap S L es ep t → Got ks n L → (∀ b o, h0.get? b = some o → s'.heap.get? b = some o) → R (.ok (.ret .none)) s') → codeAny (model pr w) A (.builtin "set.update.loop" ⟨[.ref S, .ref I], []⟩) R s := by
  have nw : S ∉ wr := fun h => hSf (W.sub _ h)
  have inS : ∀ b ∈ wr, b ∈ S :: wr := fun b hb => List.mem_cons_of_mem _ hb
  have mv : ∀ {s s' : Shared}, Moved wr G s s' → (∀ b o, h0.get? b = some o → s.heap.get? b = some o) → ∀ b o, h0.get? b = some o → s'.heap.get? b = some o := fun m q b o e =>
    m.heap b o (fun hb => by rw [hw0 b hb] at e; cases e) (q b o e)
  have sub : ∀ {L : List (Addr × List Int)} {i : Nat}, Got ks i L → ∀ p ∈ L, p ∈ ks := fun g p hp => List.mem_of_mem_take (g.sub p hp)
  intro k
  induction k with
  | zero =>
    intro i s e1 e2 st q ⟨L, es, ep, t, R0, g⟩ hR
    obtain rfl : i = n := by omega
    refine codeAny_builtin F.entry_set_update_loop ?_
    rw [Around.under_plainId F.plain_set_update_loop _]
    show wpAny _ A.in1 ((pyNext (.ref I)) >>= _) _ _ s
    refine wpAny_bind (W.done s _ _ st fun s1 m => ?_)
    have q1 := mv m q
    show wpAny _ A.in1 (ret .none) _ _ s1
    exact wpAny_pure (hR s1 L es ep t (m.mono inS) (R0.keep (fun o e => m.heap S o nw e) fun p hp => isT_keep (hk p (sub g p hp)) q1) g q1)
  | succ k ih =>
    intro i s e1 e2 st q ⟨L, es, ep, t, R0, g⟩ hR
    have lt : i < n := by omega
    refine codeAny_builtin F.entry_set_update_loop ?_
    rw [Around.under_plainId F.plain_set_update_loop _]
    show wpAny _ A.in1 ((pyNext (.ref I)) >>= _) _ _ s
    refine wpAny_bind (W.item i s _ _ lt st fun v s1 hP st1 m => ?_)
    obtain ⟨p, hp, rfl⟩ := hval i v hP
    have q1 := mv m q
    have R1 : SetTR pr w s1.heap S L es ep t := R0.keep (fun o e => m.heap S o nw e) fun p hp => isT_keep (hk p (sub g p hp)) q1
    have hx : IsT pr w s1.heap p.2 p.1 := isT_keep (hk p (List.mem_of_getElem? hp)) q1
    show wpAny _ A.in1 (holding [(Value.ref p.1)] (setAdd S (.ref p.1)) >>= _) _ _ s1
    refine wpAny_bind (wpAny_holding ?_)
    unfold setAdd
    refine wpAny_holding ?_
    refine wpAny_bind (wpAny_pyHash_tuple hu hx ?_)
    refine add_at (s := { s1 with toks := s1.toks + (p.2.length + 1) }) R1 hx hu (few L (sub g) R0.nd) fun b h2 L2 es2 ep2 t2 sb R2 c1 c2 => ?_
    have g2 : Got ks (i + 1) L2 := by
      rcases Classical.em (p.2 ∈ L.map (·.2)) with c | c
      · rw [c1 c]
        exact g.same hp c
      · exact g.more hp (c2 c)
    have q2 : ∀ b o, h0.get? b = some o → h2.get? b = some o := fun b o e => (sb.2 b (fun z => by rw [z, hS0] at e; cases e)).trans (q1 b o e)
    refine wpAny_pure ⟨plainId_quiet F.plain_set_update_loop _, (ih (i + 1) _ (by omega) lt (W.frame _ s1 _ _ st1 (Nat.le_add_right _ _) fun b hb o e => ?_) q2 ⟨L2, es2, ep2, t2, R2, g2⟩ fun s3 L3 es3 ep3 t3 m3 R3 g3 q3 => ?_)⟩
    · rw [sb.2 b (fun z : b = S => hSf (by rw [← z]; exact hb))]
      exact e
    · refine hR s3 L3 es3 ep3 t3 (Moved.trans W.gtrans ((m.mono inS).then_heap (Nat.le_add_right _ _) fun b o hb e => ?_) m3) R3 g3 q3
      rw [sb.2 b (fun z : b = S => hb (by rw [z]; exact List.mem_cons_self))]
      exact e
theorem call_set_few {l : Addr} {xs : Array Value} (ks : List (Addr × List Int)) {Q : Value → Shared → Prop} (hh : A.handled = none) (hL : s.heap.IsList l xs) (hx : xs.toList = ks.map fun p => Value.ref p.1) (hk : ∀ p ∈ ks, IsT pr w s.heap p.2 p.1) (few : FewD ks) (hu : A.units + 3 < cLine)
    (fin : ∀ (h' : Heap) (tk : Nat) L es ep t, SetTR pr w h' s.heap.objs.size L es ep t → Got ks ks.length L → (∀ b o, s.heap.get? b = some o → h'.get? b = some o) → Q (.ref s.heap.objs.size) { s with heap := h', toks := tk }) : wpAny (model pr w) A (call (.type "set") [.ref l]) Q E s := by
  have hz : xs.size = ks.length := by
    have q := congrArg List.length hx
    rwa [Array.length_toList, List.length_map] at q
  have hl : l < s.heap.objs.size := by
    obtain ⟨o, ho, _⟩ := hL
    exact Heap.lt_size ho
  have z1 : (s.heap.push (set0 w)).objs.size = s.heap.objs.size + 1 := Heap.size_push ..
  have noneof : ∀ b, s.heap.objs.size ≤ b → s.heap.get? b = none := fun b hb => by
    cases q : s.heap.get? b with
    | none => rfl
    | some o => exact absurd (Nat.lt_of_lt_of_le (Heap.lt_size q) hb) (Nat.lt_irrefl _)
  refine call_set_G (C := fun h' => ∃ L es ep t, SetTR pr w h' s.heap.objs.size L es ep t ∧ Got ks ks.length L ∧ ∀ b o, s.heap.get? b = some o → h'.get? b = some o) hL (fun ol R e k => ?_) fun h' tk ⟨L, es, ep, t, h1, h2, h3⟩ => fin h' tk L es ep t h1 h2 h3
  have gI : ((s.heap.push (set0 w)).push ol).get? (s.heap.objs.size + 1) = some ol := by
    have q := Heap.get?_push_size (s.heap.push (set0 w)) (o := ol) (by rw [e]; rfl)
    rwa [z1] at q
  have gS : ((s.heap.push (set0 w)).push ol).get? s.heap.objs.size = some (set0 w) := Heap.get?_push_of_some _ (Heap.get?_push_size _ rfl)
  have kp : ∀ b o, s.heap.get? b = some o → ((s.heap.push (set0 w)).push ol).get? b = some o := fun b o q => Heap.get?_push_of_some _ (Heap.get?_push_of_some _ q)
  refine upd_tups ((Walks.list (A := A.in1.in1.in1) hh (s.heap.objs.size + 1) l (Nat.ne_of_lt (Nat.lt_succ_of_lt hl)) xs).toS) s.heap.objs.size ?_ ks hz few (fun i v hv => ?_) s.heap hk (noneof _ (Nat.le_refl _)) (fun b hb => ?_) hu (xs.size - 0) 0 _ rfl (Nat.zero_le _) ⟨?_, ?_⟩ kp ⟨[], #[], 0, _, setTR_fresh gS, Got.zero ks⟩ fun s' L es ep t hm hS g q => ?_
  · simp only [List.mem_cons, List.not_mem_nil, or_false, not_or]
    exact ⟨Nat.ne_of_lt (Nat.lt_succ_self _), Nat.ne_of_gt hl⟩
  · have q : xs.toList[i]? = some v := by rw [Array.getElem?_toList]; exact hv
    rw [hx, List.getElem?_map] at q
    obtain ⟨p, h1, h2⟩ := Option.map_eq_some_iff.mp q
    exact ⟨p, h1, h2.symm⟩
  · rw [List.mem_singleton.mp hb]
    exact noneof _ (Nat.le_succ _)
  · exact ⟨ol, gI, by rw [e], by rw [e]; rfl⟩
  · obtain ⟨o, ho, r⟩ := hL
    exact ⟨o, kp l o ho, r⟩
  · obtain ⟨h', g2, d', tk', os'⟩ := s'
    obtain rfl : g2 = s.gens := hm.gens
    obtain rfl : d' = s.drawn := hm.drawn
    obtain rfl : os' = s.os := hm.os
    rw [hz] at g
    exact k h' tk' ⟨L, es, ep, t, hS, g, q⟩
end
/-! ### over the layer -/
def rSetI (K : PySem.W.Frag) (w : World) : List V → Hp → VK → Prop := fun vs H Q => ∃ (l : Addr) (ns : List Int), vs = [.ref l] ∧ SqL K H l (ns.map V.int) ∧ ns.length ≤ 1000 ∧ ∀ a c, H a = none → c ≤ ns.length → Q (.ref a) (upd H a (SetO w a (fun j => decide (j ∈ ns)) c))
def rSetT (K : PySem.W.Frag) (P : Program) (w : World) : List V → Hp → VK → Prop := fun vs H Q => ∃ (l : Addr) (ks : List (Addr × List Int)), vs = [V.ref l] ∧ SqL K H l (ks.map fun p => V.ref p.1) ∧ (∀ p ∈ ks, SqT K H p.1 (p.2.map V.int)) ∧ FewD ks ∧
  ∀ a L, H a = none → (∀ p ∈ L, p ∈ ks) → (∀ p ∈ ks, p.2 ∈ L.map (·.2)) → Q (.ref a) (upd H a (SetTO P w a L))
section
variable {X : Cx}
theorem cr_setI (hc : X.calm = true) : CallR X (.type "set") (rSetI X.K X.w) := by
  intro pins s σ H xs us Q I r h
  obtain ⟨l, ns, rfl, hl, hz, q⟩ := h
  rw [Vals.ref1 r]
  obtain ⟨its, rv, pl, _⟩ := I.list hl
  have hn : H s.heap.objs.size = none := I.hok.fresh (Nat.le_refl _)
  refine call_set_ints (I.ok.hd hc) pl.isList (by simpa using rv.ints) (by unfold scanBound; omega) fun h' tk c R hc k => ?_
  exact ⟨.ref s.heap.objs.size, upd H s.heap.objs.size (SetO X.w s.heap.objs.size (fun j => decide (j ∈ ns)) c), I.laid (t' := tk) k (Nat.le_refl _) (setO_new R), rfl, q _ c hn hc⟩
theorem cr_setT (hc : X.calm = true) (hu : X.A.units + 64 < cLine) : CallR X (.type "set") (rSetT X.K X.prog X.w) := by
  intro pins s σ H xs us Q I r h
  obtain ⟨l, ks, rfl, hl, hk, hf, q⟩ := h
  rw [Vals.ref1 r]
  obtain ⟨its, rv, pl, _⟩ := I.list hl
  have hn : H s.heap.objs.size = none := I.hok.fresh (Nat.le_refl _)
  refine call_set_few ks (I.ok.hd hc) pl.isList (by simpa using refs_of_vals rv) (fun p hp => I.isT (hk p hp)) hf (by omega) fun h' tk L es ep t R g k => ?_
  exact ⟨.ref s.heap.objs.size, upd H s.heap.objs.size (SetTO X.prog X.w s.heap.objs.size L), I.laid (t' := tk) k (Nat.le_refl _) (setTO_new R.t0), rfl, q _ L hn (fun p hp => List.mem_of_mem_take (g.sub p hp)) fun p hp => g.all p (by rw [List.take_length]; exact hp)⟩
end
end NB
set_option maxHeartbeats 2000000
/-! defs: what they promise, how they are called; the module's names -/
namespace NB
open PySem PySem.Spec PyProof.Rows L2

/-- a def of the text stands under its name -/
def Dd (K : PySem.W.Frag) (mg : Str → Option Value) (x : Str) (st : Stmt) : Prop := ∃ f fd, mg x = some (.ref f) ∧ FunD K x x (defArgs st) (defBody st) (defScope st) [] [] f fd
/-- .. whose code object is c with the table P -/
def DdT (K : PySem.W.Frag) (mg : Str → Option Value) (x : Str) (st : Stmt) (c : Addr) : Prop := ∃ (f : Addr) (oc : Value) (od : Option Addr) (dV kV doc pm : Value) (an : Option Addr) (ct : Value) (osl : Array (Option Value)), mg x = some (.ref f) ∧
  K.lookup f = some ⟨oc, od, .func (PySem.W.fnOf x x (defArgs st) (defBody st) (defScope st) dV kV doc pm an (.ref c) ct), osl⟩ ∧ PySem.W.codeIn K (.ref c) x = true ∧ PySem.W.keepIn K (.ref f) = true ∧ FunD K x x (defArgs st) (defBody st) (defScope st) [] [] f (PySem.W.fnOf x x (defArgs st) (defBody st) (defScope st) dV kV doc pm an (.ref c) ct)
/-- what a def promises -/
def Pr (P : Program) (w : World) (K : PySem.W.Frag) (mg : Str → Option Value) (base : Heap) (k : Nat) (x : Str) (ps : List Str) (sp : Sp) : Prop :=
  ∃ f fd, mg x = some (.ref f) ∧ FnOk P w K mg base CX0 k f fd ps sp ∧ PySem.W.keepIn K (.ref f) = true ∧ L2.Binds K fd ps []
/-- the built-in names that are used; the four numbers -/
structure Bl (mg : Str → Option Value) : Prop where
  f_isinstance : mg "isinstance" = none
  f_int : mg "int" = none
  f_bool : mg "bool" = none
  f_tuple : mg "tuple" = none
  f_list : mg "list" = none
  f_range : mg "range" = none
  f_len : mg "len" = none
  f_all : mg "all" = none
  f_sorted : mg "sorted" = none
  f_enumerate : mg "enumerate" = none
  f_set : mg "set" = none
  f_sum : mg "sum" = none
  f_str : mg "str" = none
  i_MOST_HALLS : ∃ t, mg "MOST_HALLS" = some (.int 8 t)
  i_MOST_TURNS : ∃ t, mg "MOST_TURNS" = some (.int 6 t)
  i_MOST_MEMBERS : ∃ t, mg "MOST_MEMBERS" = some (.int 5040 t)
  i_MOST_ROW : ∃ t, mg "MOST_ROW" = some (.int 100 t)
section
variable {X : Cx}
theorem pe_gi {x : Str} {i : Int} {p : Pos} (h : ∃ t, X.mg x = some (.int i t)) (hg : Gl X x) (hd : (x == ("__debug__" : Str)) = false := by decide) : PE X (.Name x p) (tC (.int i)) := by
  obtain ⟨t, h⟩ := h
  exact pe_glob hg h ⟨t, rfl⟩ hd
theorem pe_ty {x : Str} {n : String} {p : Pos} (hg : Gl X x) (hm : X.mg x = none) (hv : bootBuiltins x = some (.type n)) (hn : x ≠ "__name__" := by decide) (hd : (x == ("__debug__" : Str)) = false := by decide) : PE X (.Name x p) (tC (.ty n)) := pe_bltn hg hm hv rfl hn hd
theorem pe_pr {j k : Nat} {x : Str} {ps : List Str} {sp : Sp} {p pos : Pos} {e : Expr} {es : List Expr} {t : TA} (D : Pr X.prog X.w X.K X.mg X.base k x ps sp) (hr : Room j X.A) (hk : k ≤ j) (hg : Gl X x) (ha : PA X (e :: es) t) (hdb : (x == ("__debug__" : Str)) = false := by decide)
    (he : starEach (e :: es) X.env = (false, eval e X.env) :: starEach es X.env := by rfl) (hpl : (backTo pos (starEach es X.env)).any (·.1) = false := by rfl) : PE X (.Call (.Name x p) (e :: es) [] pos) (tCall sp [] E0 t) := by
  obtain ⟨f, fd, h1, h2, h3, h4⟩ := D
  exact pe_call h2 (hr.mono hk) hg h1 h3 h4 .nil pass0 ha hdb he hpl
theorem pe_pr0 {j k : Nat} {x : Str} {ps : List Str} {sp : Sp} {p pos : Pos} (D : Pr X.prog X.w X.K X.mg X.base k x ps sp) (hr : Room j X.A) (hk : k ≤ j) (hg : Gl X x) (hdb : (x == ("__debug__" : Str)) = false := by decide) : PE X (.Call (.Name x p) [] [] pos) (tCall sp [] E0 tNil) := by
  obtain ⟨f, fd, h1, h2, h3, h4⟩ := D
  exact pe_call0 h2 (hr.mono hk) hg h1 h3 h4 .nil pass0 hdb
end
section
variable {P : Program} {w : World} {K : PySem.W.Frag} {mg : Str → Option Value} {base : Heap} {x : Str} {st : Stmt} {N ps : List Str} {k : Nat} {sp : Sp}
abbrev bindsOk (x : Str) (st : Stmt) (ps : List Str) : Prop := ∀ (kV doc pm : Value) (an : Option Addr) (cdv ct : Value) (us : List Value), us.length = ps.length → bindArgs (PySem.W.fnOf x x (defArgs st) (defBody st) (defScope st) .none kV doc pm an cdv ct) ⟨us, []⟩ = pure (ps.zip us)
theorem pr_of (D : Dd K mg x st) (S : FnScope N ps (defScope st)) (hb : bindsOk x st ps) (len : ∀ vs H Q E, sp vs H Q E → vs.length = ps.length)
    (hbody : ∀ (f : Addr) (cdv : Value) (A : Around) (outer : List PySem.Env) (s : Shared) (H : Hp) (vs : List V) (Q : VK) (E : XK), Room k (A.deeper (envOfC x (defScope st) s.heap.objs.size f cdv)) → sp vs H Q E →
      ∃ t, PSs (cxOf CX0 P w K mg base N x (defScope st) f cdv A outer s H E).nox (defBody st) t ∧ t { nx := fun _ H' => Q .non H', rt := Q } (L2.start N vs) H) : Pr P w K mg base (k + 1) x ps sp := by
  obtain ⟨f, fd, h1, F⟩ := D
  refine ⟨f, fd, h1, F.ok S len fun cdv A outer s H vs Q E hr h => ?_, F.kp, F.bindsN hb⟩
  obtain ⟨t, h2, h3⟩ := hbody f cdv A outer s H vs Q E hr h
  exact ⟨t, h2.nox, h3⟩
theorem pr_ofT {c : Addr} (D : DdT K mg x st c) (S : FnScope N ps (defScope st)) (hb : bindsOk x st ps) (len : ∀ vs H Q E, sp vs H Q E → vs.length = ps.length)
    (hbody : ∀ (f : Addr) (A : Around) (outer : List PySem.Env) (s : Shared) (H : Hp) (vs : List V) (Q : VK) (E : XK), Room k (A.deeper (envOfC x (defScope st) s.heap.objs.size f (.ref c))) → sp vs H Q E →
      ∃ t, PSs (cxOf CX0 P w K mg base N x (defScope st) f (.ref c) A outer s H E).nox (defBody st) t ∧ t { nx := fun _ H' => Q .non H', rt := Q } (L2.start N vs) H) : Pr P w K mg base (k + 1) x ps sp := by
  obtain ⟨f, oc, od, dV, kV, doc, pm, an, ct, osl, h1, lk, hcd, kp, F⟩ := D
  refine ⟨f, _, h1, fn_of lk hcd S len fun A outer s H vs Q E hr h => ?_, kp, F.bindsN hb⟩
  obtain ⟨t, h2, h3⟩ := hbody f A outer s H vs Q E hr h
  exact ⟨t, h2.nox, h3⟩
end
/-! ### the start -/
theorem env_start {B : Tbs} {H : Hp} {N : List Str} {vs : List V} {ss : List Sl} (tb : TbOk B H) (h : SlsOk H ss vs) (hl : vs.length ≤ N.length) : Env B (L2.start N vs) H (ss.map some ++ List.replicate (N.length - ss.length) none) := by
  have len : vs.length = ss.length := by
    clear hl
    induction h with
    | nil => rfl
    | cons a b ih => simp [ih]
  refine ⟨tb, ?_, fun i g hg => ?_⟩
  · unfold L2.start
    simp [len]
  · have key : ∀ {ss : List Sl} {vs : List V} {i : Nat} {g : Sl}, SlsOk H ss vs → ss[i]? = some g → ∃ v, vs[i]? = some v ∧ SlOk H g v := by
      intro ss vs i g h
      induction h generalizing i with
      | nil => intro z; simp at z
      | cons a b ih =>
        intro z
        cases i with
        | zero =>
          simp at z
          subst z
          exact ⟨_, rfl, a⟩
        | succ i => exact ih (by simpa using z)
    by_cases hi : i < ss.length
    · rw [List.getElem?_append_left (by simpa using hi), List.getElem?_map] at hg
      obtain ⟨g', h1, h2⟩ := Option.map_eq_some_iff.mp hg
      cases h2
      obtain ⟨v, h3, h4⟩ := key h h1
      refine ⟨v, ?_, h4⟩
      unfold L2.start
      rw [List.getElem?_append_left (by simpa [len] using hi), List.getElem?_map, h3]
      rfl
    · rw [List.getElem?_append_right (by simp; omega), List.getElem?_replicate] at hg
      split at hg <;> cases hg
theorem slsOk_data {H : Hp} {ds : List PyData} {vs : List V} (h : IsAll H vs ds) : SlsOk H (ds.map .d) vs := by
  induction ds generalizing vs with
  | nil => cases h; exact .nil
  | cons d ds ih => cases h with | cons a b => exact .cons a (ih b)
theorem spD_len {K : PySem.W.Frag} {B : Tbs} {C : List PyData → PyData → Prop} {n : Nat} (hC : ∀ ds d, C ds d → ds.length = n) : ∀ vs H Q E, spD K B C vs H Q E → vs.length = n := fun vs H Q E ⟨_, ds, d, h1, h2, _⟩ => h1.len.trans (hC ds d h2)
theorem spN_len {K : PySem.W.Frag} {B : Tbs} {C : List PyData → List PyData → Prop} {n : Nat} (hC : ∀ ds d, C ds d → ds.length = n) : ∀ vs H Q E, spN K B C vs H Q E → vs.length = n := fun vs H Q E ⟨_, ds, d, h1, h2, _⟩ => h1.len.trans (hC ds d h2)
end NB
namespace NB
open PySem PySem.Spec PyProof.Rows L2
theorem hu1 {k : Nat} {A : Around} (r : Room k A) : A.units + 1 < cLine := by have := r.un; omega
theorem hu64 {k : Nat} {A : Around} (r : Room k A) : A.units + 64 < cLine := by have := r.un; omega
theorem hu65 {k : Nat} {A : Around} (r : Room k A) : A.units + 65 < cLine := by have := r.un; omega
section
variable {X : Cx}
def rNotInK : R2 := fun y d H Q => ∃ a kvs k, y = kV k ∧ d = .ref a ∧ H a = some (.dK kvs) ∧ Q (.bl (!(valV kvs k).isSome)) H
theorem op_notInK (hu : X.A.units + 1 < cLine) : OpR X (compareOp .NotIn) rNotInK := by
  intro pins s σ H x y v u Q I rx ry h
  obtain ⟨a, kvs, k, rfl, rfl, ha, q⟩ := h
  cases ry
  exact d_notIn hu I (DGet.k ha) rx fun s' J => ⟨.bl _, H, J, rfl, q⟩
def rGetL (K : PySem.W.Frag) : V → V → Hp → VK → Prop := fun o i H Q => ∃ p xs k v, o = .ref p ∧ i = .int k ∧ SqL K H p xs ∧ 0 ≤ k ∧ k < 1000000 ∧ xs[k.toNat]? = some v ∧ Q v H
theorem get_list : PGet X (rGetL X.K) := by
  intro pins s σ H o i ov iv Q I ro ri h
  obtain ⟨p, xs, k, v, rfl, rfl, hp, h0, h1, hv, q⟩ := h
  cases ro
  obtain ⟨t, rfl⟩ := ri
  obtain ⟨its, r, pl, _⟩ := I.list hp
  obtain ⟨u, hu, ru⟩ := r.get hv
  exact wpAny_getItem_list pl.isList h0 (by omega) (by simpa using hu) ⟨v, H, I, ru, q⟩
end
end NB
/-! rules whose reading names K, P, w by themselves (so that they stand within comprehensions) -/
namespace NB
open PySem PySem.Spec PyProof.Rows L2
section
variable {X : Cx} {K : PySem.W.Frag} {P : Program} {w : World} {a b e : Expr} {es : List Expr} {ta tb to te : TE} {t : TA} {pos p apos : Pos} {tg : Expr}
theorem pe_ixT (hK : X.K = K) (ha : PE X a ta) (hb : PE X b tb) (hs : PlainIx b := by intro _ _; rfl) : PE X (.Subscript a b pos) (tOp (rIxT K) ta tb) := by
  subst hK
  exact pe_ix ix_tup ha hb hs
theorem pe_ixL (hK : X.K = K) (ha : PE X a ta) (hb : PE X b tb) (hs : PlainIx b := by intro _ _; rfl) : PE X (.Subscript a b pos) (tOp (rIxL K) ta tb) := by
  subst hK
  exact pe_ix ix_list ha hb hs
def rIxE (K : PySem.W.Frag) : R2 := fun x y H Q => rIxT K x y H Q ∨ rIxL K x y H Q
theorem pe_ixE (hK : X.K = K) (ha : PE X a ta) (hb : PE X b tb) (hs : PlainIx b := by intro _ _; rfl) : PE X (.Subscript a b pos) (tOp (rIxE K) ta tb) := by
  subst hK
  exact pe_ix (IxR.or ix_tup ix_list) ha hb hs
theorem pi_tupK (hK : X.K = K) (hl : PE X e te) : PI X tg e (iTup K te) := by
  subst hK
  exact pi_tup hl
theorem pi_listK (hK : X.K = K) (hl : PE X e te) : PI X tg e (iList K te) := by
  subst hK
  exact pi_list hl
theorem pi_enTK {elts : List Expr} {kk : Nat} {tpos : Pos} (hK : X.K = K) (hg : Gl X "enumerate") (hm : X.mg "enumerate" = none) (ha : PA X [e] t) (hs : starEach [e] X.env = [(false, eval e X.env)] := by rfl) :
    PI X (.Tuple elts kk tpos) (.Call (.Name "enumerate" p) [e] [] pos) (iEnT K t) := by
  subst hK
  exact pi_enT hg hm ha hs
theorem pg_tupK {k : Nat} {ts : TGs} {n : Nat} (hK : X.K = K) (hc : X.calm = true) (h : PGs X es ts) (hn : (assignEach es X.env).length = n := by rfl) (hst : (assignEach es X.env).findIdx? (·.1) = none := by rfl) : PG X (.Tuple es k pos) (gTup K n ts) := by
  subst hK
  exact pg_tup hc h hn hst
theorem pe_bmK {o : Expr} {name : Str} {T id : String} {r : V → List V → Hp → VK → Prop} {cpos : Pos} (hK : X.K = K) (pa : PlainAttrs T) (slot : Slot T name id) (hty : typeOf (.builtin id) = pure (.type "method_descriptor")) (hm : MtR X id r) (ho : PE X o to) (ha : PA X (e :: es) t)
    (hbase : attributeBase o name X.env (eval o X.env) = eval o X.env := by rfl)
    (hfew : ((backTo cpos (starEach (e :: es) X.env)).all (fun x => !x.1) && (backToKw cpos (keywordEach [] X.env)).all (fun x => x.1.isSome) && decide ((e :: es).length + ([] : List Keyword).length + (if ([] : List Keyword).isEmpty then 0 else 1) < 30)) = true := by rfl)
    (hline : (apos.endLine == cpos.line) = true := by rfl) (hs : starEach (e :: es) X.env = (false, eval e X.env) :: starEach es X.env := by rfl) (hplain : (backTo cpos (starEach es X.env)).any (·.1) = false := by rfl) :
    PE X (.Call (.Attribute o name apos) (e :: es) [] cpos) (tBM K T r to t) := by
  subst hK
  exact pe_bm pa slot hty hm ho ha hbase hfew hline hs hplain
theorem pe_bm0K {o : Expr} {name : Str} {T id : String} {r : V → List V → Hp → VK → Prop} {cpos : Pos} (hK : X.K = K) (pa : PlainAttrs T) (slot : Slot T name id) (hty : typeOf (.builtin id) = pure (.type "method_descriptor")) (hm : MtR X id r) (ho : PE X o to)
    (hbase : attributeBase o name X.env (eval o X.env) = eval o X.env := by rfl) (hline : (apos.endLine == cpos.line) = true := by rfl) : PE X (.Call (.Attribute o name apos) [] [] cpos) (tBM0 K T r to) := by
  subst hK
  exact pe_bm0 pa slot hty hm ho hbase hline
theorem pe_indFK {o : Expr} {cpos : Pos} (hK : X.K = K) (ho : PE X o to) (ha : PA X (e :: es) t) (hbase : attributeBase o "index" X.env (eval o X.env) = eval o X.env := by rfl)
    (hfew : ((backTo cpos (starEach (e :: es) X.env)).all (fun x => !x.1) && (backToKw cpos (keywordEach [] X.env)).all (fun x => x.1.isSome) && decide ((e :: es).length + ([] : List Keyword).length + (if ([] : List Keyword).isEmpty then 0 else 1) < 30)) = true := by rfl)
    (hline : (apos.endLine == cpos.line) = true := by rfl) (hs : starEach (e :: es) X.env = (false, eval e X.env) :: starEach es X.env := by rfl) (hplain : (backTo cpos (starEach es X.env)).any (·.1) = false := by rfl) :
    PE X (.Call (.Attribute o "index" apos) (e :: es) [] cpos) (tIndF K to t) := by
  subst hK
  exact pe_indF ho ha hbase hfew hline hs hplain
end
end NB
namespace NB
open PySem PySem.Spec PyProof.Rows L2
section
variable {X : Cx} {K : PySem.W.Frag} {P : Program} {w : World} {a : Expr} {ta tk : TE} {pos : Pos}
def tTru (K : PySem.W.Frag) (ta : TE) : TT := fun σ H Q => ta σ H fun x H' => ∃ k, TruV K x H' k ∧ Q k H'
theorem pt_tru (hK : X.K = K) (ha : PE X a ta) (he : ∀ whole, isTrue a X.env whole = (do let v ← whole; standAt a.pos; holding [v] (truthy v))) : PT X a (tTru K ta) := by
  subst hK
  exact pt_truth ha he
theorem pe_disXK {k : Expr} {pv : Pos} {j : Nat} (hP : X.prog = P) (hw : X.w = w) (hu : X.A.units + 1 < cLine) (hk : PE X k tk) : PE X (.Dict [some k] [.Constant (.bool true) j pv] pos) (tDisX P w tk) := by
  subst hP hw
  exact pe_disX hu hk
theorem set_XK (hP : X.prog = P) (hw : X.w = w) (hu : X.A.units + 1 < cLine) : PSet X (tSetX P w) := by
  subst hP hw
  exact set_X hu
/-- where lots_of stands -/
structure LotsAt (K : PySem.W.Frag) (mg : Str → Option Value) (x : Str) (st : Stmt) (ps : List Str) (g : Addr) (oc : Value) (od : Option Addr) (dV kV doc pm cdv ct : Value) (an : Option Addr) (osl : Array (Option Value)) : Prop where
  hm : mg x = some (.ref g)
  hk : PySem.W.keepIn K (.ref g) = true
  lk : K.lookup g = some ⟨oc, od, .func (PySem.W.fnOf x x (defArgs st) (defBody st) (defScope st) dV kV doc pm an cdv ct), osl⟩
  hcg : PySem.W.codeIn K cdv x = true
  hb : L2.Binds K (PySem.W.fnOf x x (defArgs st) (defBody st) (defScope st) dV kV doc pm an cdv ct) ps []
def lamFB (sc scope : Scope) : Bool := scope.names.all fun y => !decide (y.2 = .free) || (decide (sc.names.lookup y.1 = some .cell) || decide (sc.names.lookup y.1 = some .free))
theorem lam_free {sc scope : Scope} (h : lamFB sc scope = true) : ∀ y ∈ scope.names, y.2 = .free → sc.names.lookup y.1 = some .cell ∨ sc.names.lookup y.1 = some .free := fun y hy e => by
  have q := List.all_eq_true.mp h y hy
  simp only [Bool.or_eq_true, Bool.not_eq_true', decide_eq_true_eq, decide_eq_false_iff_not] at q
  rcases q with q | q
  · exact absurd e q
  · exact q
def frB (fr : List Str) (scope : Scope) : Bool := fr.all fun y => decide ((y, NameKind.free) ∈ scope.names)
theorem fr_in {fr : List Str} {scope : Scope} (h : frB fr scope = true) : ∀ y ∈ fr, (y, NameKind.free) ∈ scope.names := fun y hy => of_decide_eq_true (List.all_eq_true.mp h y hy)
end
end NB
set_option maxHeartbeats 4000000
/-! the walks, printed by gen_term.py -/
namespace NB
open PySem PySem.Spec PyProof.Rows L2
section
variable {P : Program} {w : World} {K : PySem.W.Frag} {mg : Str → Option Value} {base : Heap}
def scParts : Scope := match (defBody s_law_parts).getD 0 (.Pass ⟨0, 0, 0, 0⟩) with
  | .Assign _ (.ListComp _ _ sc _) _ => sc
  | _ => defScope s_law_parts
abbrev N_is_number : List Str := ["value", "low", "high"]
theorem sc_is_number : FnScope N_is_number ["value", "low", "high"] (defScope s_is_number) := ⟨rfl, rfl, rfl, by decide +kernel, rfl, by decide +kernel, by decide +kernel⟩
noncomputable def wt_is_number (G : Bl mg) {f : Addr} {cdv : Value} {A : Around} {outer : List PySem.Env} {s : Shared} {H : Hp} {E : XK} (hr : Room 0 (A.deeper (envOfC "is_number" (defScope s_is_number) s.heap.objs.size f cdv))) : { t : TS // PSs (cxOf CX0 P w K mg base N_is_number "is_number" (defScope s_is_number) f cdv A outer s H E).nox (defBody s_is_number) t } :=
  ⟨_, (pss_one (ps_ret (pe_and (pe_callB (r := rIsi K) call_isi rfl G.f_isinstance boot_isinstance (pa_cons (pv 0) (pa_cons (pe_ty rfl G.f_int boot_int) pa_nil))) (pe_and (pe_not (pe_callB (r := rIsi K) call_isi rfl G.f_isinstance boot_isinstance (pa_cons (pv 0) (pa_cons (pe_ty rfl G.f_bool boot_bool) pa_nil)))) (pe_one (pe_chain op_le op_le (pv 1) (pv 0) (pv 2)))))))⟩
abbrev N_is_turn : List Str := ["halls", "value"]
theorem sc_is_turn : FnScope N_is_turn ["halls", "value"] (defScope s_is_turn) := ⟨rfl, rfl, rfl, by decide +kernel, rfl, by decide +kernel, by decide +kernel⟩
noncomputable def wt_is_turn {c Pt : Addr} (TB : GxR.TabB base mg c Pt) (G : Bl mg) {sp_is_number : Sp} (D_is_number : Pr P w K mg base 1 "is_number" ["value", "low", "high"] sp_is_number) {f : Addr} {A : Around} {outer : List PySem.Env} {s : Shared} {H : Hp} {E : XK} (hr : Room 4 (A.deeper (envOfC "is_turn" (defScope s_is_turn) s.heap.objs.size f (.ref c)))) : { t : TS // PSs (cxOf CX0 P w K mg base N_is_turn "is_turn" (defScope s_is_turn) f (.ref c) A outer s H E).nox (defBody s_is_turn) t } :=
  ⟨_, (pss_cons (ps_if (PW.pt (pw_or (pt_not (pt_val (pe_callB (r := rIsi K) call_isi rfl G.f_isinstance boot_isinstance (pa_cons (pv 1) (pa_cons (pe_ty rfl G.f_tuple boot_tuple) pa_nil))))) (pw_or (pt_cmpR op_ne (pe_callB (r := rLn K) call_len_seq rfl G.f_len boot_len (pa_cons (pv 1) pa_nil)) (pv 0) (nomark _)) (pw_or1 (pt_not (pt_val (pe_allG (k := 1) (j := 0) hr rfl G.f_all TB rfl (gxs_by (sc := defScope s_is_turn) (by decide +kernel)) rfl (pv 1) (fun s1 H1 C code hr => (pe_pr D_is_number hr (by decide) rfl (pa_cons (pv 0) (pa_cons pe_int (pa_cons (pe_op op_sub (pv 1) pe_int) pa_nil))))) (fun _ => rfl)))))))) (pss_one (ps_ret pe_bl)) pss_nil) (pss_one (ps_ret (pe_cmpR (r := rEqD K) (op_eqD (hu64 hr)) (pe_callB (r := rSrtI K) (cr_srtI rfl) rfl G.f_sorted boot_sorted (pa_cons (pv 1) pa_nil)) (pe_listRg rfl rfl G.f_list (prg_1 rfl G.f_range (pv 0))) (nomark _)))))⟩
abbrev N_wrong_part : List Str := ["value", "turns", "halls"]
theorem sc_wrong_part : FnScope N_wrong_part ["value"] (defScope s_wrong_part) := ⟨rfl, rfl, rfl, by decide +kernel, rfl, by decide +kernel, by decide +kernel⟩
noncomputable def wt_wrong_part {c Pt : Addr} (TB : GxR.TabB base mg c Pt) (G : Bl mg) {sp_is_number : Sp} (D_is_number : Pr P w K mg base 1 "is_number" ["value", "low", "high"] sp_is_number) {sp_is_turn : Sp} (D_is_turn : Pr P w K mg base 5 "is_turn" ["halls", "value"] sp_is_turn) {f : Addr} {A : Around} {outer : List PySem.Env} {s : Shared} {H : Hp} {E : XK} (hr : Room 8 (A.deeper (envOfC "wrong_part" (defScope s_wrong_part) s.heap.objs.size f (.ref c)))) : { t : TS // PSs (cxOf CX0 P w K mg base N_wrong_part "wrong_part" (defScope s_wrong_part) f (.ref c) A outer s H E).nox (defBody s_wrong_part) t } :=
  ⟨_, (pss_cons (ps_if (PW.pt (pw_or (pt_not (pt_val (pe_callB (r := rIsi K) call_isi rfl G.f_isinstance boot_isinstance (pa_cons (pv 0) (pa_cons (pe_ty rfl G.f_tuple boot_tuple) pa_nil))))) (pw_or1 (pt_cmpR op_ne (pe_callB (r := rLn K) call_len_seq rfl G.f_len boot_len (pa_cons (pv 0) pa_nil)) pe_int (nomark _))))) (pss_one (ps_ret pe_str)) pss_nil) (pss_cons (ps_asg (pv 0) (pg_tupK (K := K) (n := 2) rfl rfl (pgs_cons (pg_name (i := 2) sc_wrong_part.nd rfl (Or.inr rfl) (Or.inl rfl)) (pgs_cons (pg_name (i := 1) sc_wrong_part.nd rfl (Or.inl rfl) (Or.inr rfl)) pgs_nil)))) (pss_cons (ps_if (pt_not (pt_val (pe_pr D_is_number hr (by decide) rfl (pa_cons (pv 2) (pa_cons pe_int (pa_cons (pe_gi G.i_MOST_HALLS rfl) pa_nil)))))) (pss_one (ps_ret pe_str)) pss_nil) (pss_cons (ps_if (PW.pt (pw_or (pt_not (pt_val (pe_callB (r := rIsi K) call_isi rfl G.f_isinstance boot_isinstance (pa_cons (pv 1) (pa_cons (pe_ty rfl G.f_tuple boot_tuple) pa_nil))))) (pw_or1 (pt_not (pt_chain op_le op_le pe_int (pe_callB (r := rLn K) call_len_seq rfl G.f_len boot_len (pa_cons (pv 1) pa_nil)) (pe_gi G.i_MOST_TURNS rfl)))))) (pss_one (ps_ret pe_str)) pss_nil) (pss_one (ps_ret (pe_ifExp (pt_val (pe_allG (k := 5) (j := 2) hr rfl G.f_all TB rfl (gxs_by (sc := defScope s_wrong_part) (by decide +kernel)) rfl (pv 1) (fun s1 H1 C code hr => (pe_pr D_is_turn hr (by decide) rfl (pa_cons (pv 1) (pa_cons (pv 0) pa_nil)))) (fun _ => rfl))) pe_non pe_str)))))))⟩
abbrev N_need_house : List Str := ["value", "word"]
theorem sc_need_house : FnScope N_need_house ["value"] (defScope s_need_house) := ⟨rfl, rfl, rfl, by decide +kernel, rfl, by decide +kernel, by decide +kernel⟩
noncomputable def wt_need_house (G : Bl mg) {sp_wrong_part : Sp} (D_wrong_part : Pr P w K mg base 9 "wrong_part" ["value"] sp_wrong_part) {f : Addr} {cdv : Value} {A : Around} {outer : List PySem.Env} {s : Shared} {H : Hp} {E : XK} (hr : Room 9 (A.deeper (envOfC "need_house" (defScope s_need_house) s.heap.objs.size f cdv))) : { t : TS // PSs (cxOf CX0 P w K mg base N_need_house "need_house" (defScope s_need_house) f cdv A outer s H E).nox (defBody s_need_house) t } :=
  ⟨_, (pss_cons (ps_set (i := 1) sc_need_house.nd rfl (Or.inl rfl) (pe_pr D_wrong_part hr (by decide) rfl (pa_cons (pv 0) pa_nil))) (pss_one (ps_if (pt_cmpR op_notN (pv 1) pe_non (nomark _)) (pss_one ps_never) pss_nil)))⟩
abbrev N_need_turn : List Str := ["house", "value"]
theorem sc_need_turn : FnScope N_need_turn ["house", "value"] (defScope s_need_turn) := ⟨rfl, rfl, rfl, by decide +kernel, rfl, by decide +kernel, by decide +kernel⟩
noncomputable def wt_need_turn (G : Bl mg) {sp_is_turn : Sp} (D_is_turn : Pr P w K mg base 5 "is_turn" ["halls", "value"] sp_is_turn) {f : Addr} {cdv : Value} {A : Around} {outer : List PySem.Env} {s : Shared} {H : Hp} {E : XK} (hr : Room 5 (A.deeper (envOfC "need_turn" (defScope s_need_turn) s.heap.objs.size f cdv))) : { t : TS // PSs (cxOf CX0 P w K mg base N_need_turn "need_turn" (defScope s_need_turn) f cdv A outer s H E).nox (defBody s_need_turn) t } :=
  ⟨_, (pss_one (ps_if (pt_not (pt_val (pe_pr D_is_turn hr (by decide) rfl (pa_cons (pe_ixT (K := K) rfl (pv 0) pe_int) (pa_cons (pv 1) pa_nil))))) (pss_one ps_never) pss_nil))⟩
abbrev N_still : List Str := ["halls"]
theorem sc_still : FnScope N_still ["halls"] (defScope s_still) := ⟨rfl, rfl, rfl, by decide +kernel, rfl, by decide +kernel, by decide +kernel⟩
noncomputable def wt_still (G : Bl mg) {f : Addr} {cdv : Value} {A : Around} {outer : List PySem.Env} {s : Shared} {H : Hp} {E : XK} (hr : Room 0 (A.deeper (envOfC "still" (defScope s_still) s.heap.objs.size f cdv))) : { t : TS // PSs (cxOf CX0 P w K mg base N_still "still" (defScope s_still) f cdv A outer s H E).nox (defBody s_still) t } :=
  ⟨_, (pss_one (ps_ret (pe_tupRg rfl rfl G.f_tuple (prg_1 rfl G.f_range (pv 0)))))⟩
abbrev N_then : List Str := ["one", "other", "hall"]
theorem sc_then : FnScope N_then ["one", "other"] (defScope s_then) := ⟨rfl, rfl, rfl, by decide +kernel, rfl, by decide +kernel, by decide +kernel⟩
noncomputable def wt_then (G : Bl mg) {f : Addr} {cdv : Value} {A : Around} {outer : List PySem.Env} {s : Shared} {H : Hp} {E : XK} (hr : Room 0 (A.deeper (envOfC "then" (defScope s_then) s.heap.objs.size f cdv))) : { t : TS // PSs (cxOf CX0 P w K mg base N_then "then" (defScope s_then) f cdv A outer s H E).nox (defBody s_then) t } :=
  ⟨_, (pss_one (ps_ret (pe_callTy (r := rTupOf K) call_tuple_of rfl G.f_tuple boot_tuple (pa_cons (pe_lc (own := [("hall", 2)]) rfl sc_then.nd (pi_tupK (K := K) rfl (pv 0)) (blkOk_by (N := N_then) (sc := defScope s_then) (by decide +kernel)) (fun _ _ _ _ _ => (pg_name (i := 2) sc_then.nd rfl (Or.inl rfl) (Or.inr rfl))) (fun _ _ _ _ _ => pts_nil) (fun _ _ _ _ _ => (pe_ixT (K := K) rfl (pv 1) (pv 2)))) pa_nil))))⟩
abbrev N_back : List Str := ["one", "found", "hall", "other"]
theorem sc_back : FnScope N_back ["one"] (defScope s_back) := ⟨rfl, rfl, rfl, by decide +kernel, rfl, by decide +kernel, by decide +kernel⟩
noncomputable def wt_back (G : Bl mg) {f : Addr} {cdv : Value} {A : Around} {outer : List PySem.Env} {s : Shared} {H : Hp} {E : XK} (hr : Room 0 (A.deeper (envOfC "back" (defScope s_back) s.heap.objs.size f cdv))) : { t : TS // PSs (cxOf CX0 P w K mg base N_back "back" (defScope s_back) f cdv A outer s H E).nox (defBody s_back) t } :=
  ⟨_, (pss_cons (ps_set (i := 1) sc_back.nd rfl (Or.inl rfl) (pe_op op_rep (pe_lst (pa_cons pe_int pa_nil)) (pe_callB (r := rLn K) call_len_seq rfl G.f_len boot_len (pa_cons (pv 0) pa_nil)))) (pss_cons (ps_for PassesOwn.never rfl (pi_enTK (K := K) rfl rfl G.f_enumerate (pa_cons (pv 0) pa_nil)) (pg_tupK (K := K) (n := 2) rfl rfl (pgs_cons (pg_name (i := 2) sc_back.nd rfl (Or.inl rfl) (Or.inr rfl)) (pgs_cons (pg_name (i := 3) sc_back.nd rfl (Or.inl rfl) (Or.inr rfl)) pgs_nil))) (pss_one (ps_asg (pv 2) (pg_sub (pv 1) (pv 3) set_list)))) (pss_one (ps_ret (pe_callTy (r := rTupOf K) call_tuple_of rfl G.f_tuple boot_tuple (pa_cons (pv 1) pa_nil))))))⟩
abbrev N_members_of : List Str := ["house", "first", "found", "here", "one", "turn", "later"]
theorem sc_members_of : FnScope N_members_of ["house"] (defScope s_members_of) := ⟨rfl, rfl, rfl, by decide +kernel, rfl, by decide +kernel, by decide +kernel⟩
noncomputable def wt_members_of (G : Bl mg) {sp_still : Sp} (D_still : Pr P w K mg base 1 "still" ["halls"] sp_still) {sp_then : Sp} (D_then : Pr P w K mg base 1 "then" ["one", "other"] sp_then) {f : Addr} {cdv : Value} {A : Around} {outer : List PySem.Env} {s : Shared} {H : Hp} {E : XK} (hr : Room 1 (A.deeper (envOfC "members_of" (defScope s_members_of) s.heap.objs.size f cdv))) : { t : TS // PSs (cxOf CX0 P w K mg base N_members_of "members_of" (defScope s_members_of) f cdv A outer s H E).nox (defBody s_members_of) t } :=
  ⟨_, (pss_cons (ps_set (i := 1) sc_members_of.nd rfl (Or.inl rfl) (pe_pr D_still hr (by decide) rfl (pa_cons (pe_ixT (K := K) rfl (pv 0) pe_int) pa_nil))) (pss_cons (ps_par (i := 2) (j := 3) rfl sc_members_of.nd rfl rfl (by decide) rfl rfl (pa_cons (pe_disXK (P := P) (w := w) rfl rfl (hu1 hr) (pv 1)) (pa_cons (pe_lst (pa_cons (pv 1) pa_nil)) pa_nil)) (by first | rfl | decide +kernel)) (pss_cons (ps_while PassesOwn.never (pt_tru (K := K) rfl (pv 3) (fun _ => rfl)) (pss_cons (ps_set (i := 4) sc_members_of.nd rfl (Or.inl rfl) (pe_bm0K (K := K) rfl PySem.F.plainAttrs_list PySem.F.slot_list_pop PySem.F.type_list_pop mt_pop (pv 3))) (pss_one (ps_for PassesOwn.never rfl (pi_tupK (K := K) rfl (pe_ixT (K := K) rfl (pv 0) pe_int)) (pg_name (i := 5) sc_members_of.nd rfl (Or.inl rfl) (Or.inr rfl)) (pss_cons (ps_set (i := 6) sc_members_of.nd rfl (Or.inl rfl) (pe_pr D_then hr (by decide) rfl (pa_cons (pv 4) (pa_cons (pv 5) pa_nil)))) (pss_one (ps_if (pt_cmpR (r := rNotInX P w) (op_notInX (hu1 hr)) (pv 6) (pv 2) (by with_unfolding_all rfl)) (pss_cons (ps_asg pe_bl (pg_sub (pv 2) (pv 6) (set_XK (P := P) (w := w) rfl rfl (hu1 hr)))) (pss_cons (ps_expr (pe_bmK (K := K) rfl PySem.F.plainAttrs_list PySem.F.slot_list_append PySem.F.type_list_append mt_append (pv 3) (pa_cons (pv 6) pa_nil))) (pss_one (ps_if (pt_cmpR op_gt (pe_callB (r := rLenX P w) cr_lenX rfl G.f_len boot_len (pa_cons (pv 2) pa_nil)) (pe_gi G.i_MOST_MEMBERS rfl) (nomark _)) (pss_one ps_never) pss_nil)))) pss_nil))))))) (pss_one (ps_ret (pe_callB (r := rSrtT K P w) (cr_srtT rfl) rfl G.f_sorted boot_sorted (pa_cons (pv 2) pa_nil)))))))⟩
abbrev N_members : List Str := ["house"]
theorem sc_members : FnScope N_members ["house"] (defScope s_members) := ⟨rfl, rfl, rfl, by decide +kernel, rfl, by decide +kernel, by decide +kernel⟩
noncomputable def wt_members (G : Bl mg) {sp_need_house : Sp} (D_need_house : Pr P w K mg base 10 "need_house" ["value"] sp_need_house) {sp_members_of : Sp} (D_members_of : Pr P w K mg base 2 "members_of" ["house"] sp_members_of) {f : Addr} {cdv : Value} {A : Around} {outer : List PySem.Env} {s : Shared} {H : Hp} {E : XK} (hr : Room 10 (A.deeper (envOfC "members" (defScope s_members) s.heap.objs.size f cdv))) : { t : TS // PSs (cxOf CX0 P w K mg base N_members "members" (defScope s_members) f cdv A outer s H E).nox (defBody s_members) t } :=
  ⟨_, (pss_cons (ps_expr (pe_pr D_need_house hr (by decide) rfl (pa_cons (pv 0) pa_nil))) (pss_one (ps_ret (pe_callTy (r := rTupOf K) call_tuple_of rfl G.f_tuple boot_tuple (pa_cons (pe_pr D_members_of hr (by decide) rfl (pa_cons (pv 0) pa_nil)) pa_nil)))))⟩
abbrev N_order : List Str := ["house"]
theorem sc_order : FnScope N_order ["house"] (defScope s_order) := ⟨rfl, rfl, rfl, by decide +kernel, rfl, by decide +kernel, by decide +kernel⟩
noncomputable def wt_order (G : Bl mg) {sp_need_house : Sp} (D_need_house : Pr P w K mg base 10 "need_house" ["value"] sp_need_house) {sp_members_of : Sp} (D_members_of : Pr P w K mg base 2 "members_of" ["house"] sp_members_of) {f : Addr} {cdv : Value} {A : Around} {outer : List PySem.Env} {s : Shared} {H : Hp} {E : XK} (hr : Room 10 (A.deeper (envOfC "order" (defScope s_order) s.heap.objs.size f cdv))) : { t : TS // PSs (cxOf CX0 P w K mg base N_order "order" (defScope s_order) f cdv A outer s H E).nox (defBody s_order) t } :=
  ⟨_, (pss_cons (ps_expr (pe_pr D_need_house hr (by decide) rfl (pa_cons (pv 0) pa_nil))) (pss_one (ps_ret (pe_callB (r := rLn K) call_len_seq rfl G.f_len boot_len (pa_cons (pe_pr D_members_of hr (by decide) rfl (pa_cons (pv 0) pa_nil)) pa_nil)))))⟩
abbrev N_is_member : List Str := ["house", "turn"]
theorem sc_is_member : FnScope N_is_member ["house", "turn"] (defScope s_is_member) := ⟨rfl, rfl, rfl, by decide +kernel, rfl, by decide +kernel, by decide +kernel⟩
noncomputable def wt_is_member (G : Bl mg) {sp_need_house : Sp} (D_need_house : Pr P w K mg base 10 "need_house" ["value"] sp_need_house) {sp_need_turn : Sp} (D_need_turn : Pr P w K mg base 6 "need_turn" ["house", "value"] sp_need_turn) {sp_members_of : Sp} (D_members_of : Pr P w K mg base 2 "members_of" ["house"] sp_members_of) {f : Addr} {cdv : Value} {A : Around} {outer : List PySem.Env} {s : Shared} {H : Hp} {E : XK} (hr : Room 10 (A.deeper (envOfC "is_member" (defScope s_is_member) s.heap.objs.size f cdv))) : { t : TS // PSs (cxOf CX0 P w K mg base N_is_member "is_member" (defScope s_is_member) f cdv A outer s H E).nox (defBody s_is_member) t } :=
  ⟨_, (pss_cons (ps_expr (pe_pr D_need_house hr (by decide) rfl (pa_cons (pv 0) pa_nil))) (pss_cons (ps_expr (pe_pr D_need_turn hr (by decide) rfl (pa_cons (pv 0) (pa_cons (pv 1) pa_nil)))) (pss_one (ps_ret (pe_cmpR (r := rInD K) (op_inD (hu65 hr)) (pv 1) (pe_pr D_members_of hr (by decide) rfl (pa_cons (pv 0) pa_nil)) (by with_unfolding_all rfl))))))⟩
abbrev N_made : List Str := ["house", "row", "index", "letter", "found"]
theorem sc_made : FnScope N_made ["house", "row"] (defScope s_made) := ⟨rfl, rfl, rfl, by decide +kernel, rfl, by decide +kernel, by decide +kernel⟩
noncomputable def wt_made (G : Bl mg) {sp_need_house : Sp} (D_need_house : Pr P w K mg base 10 "need_house" ["value"] sp_need_house) {sp_is_number : Sp} (D_is_number : Pr P w K mg base 1 "is_number" ["value", "low", "high"] sp_is_number) {sp_still : Sp} (D_still : Pr P w K mg base 1 "still" ["halls"] sp_still) {sp_then : Sp} (D_then : Pr P w K mg base 1 "then" ["one", "other"] sp_then) {f : Addr} {cdv : Value} {A : Around} {outer : List PySem.Env} {s : Shared} {H : Hp} {E : XK} (hr : Room 10 (A.deeper (envOfC "made" (defScope s_made) s.heap.objs.size f cdv))) : { t : TS // PSs (cxOf CX0 P w K mg base N_made "made" (defScope s_made) f cdv A outer s H E).nox (defBody s_made) t } :=
  ⟨_, (pss_cons (ps_expr (pe_pr D_need_house hr (by decide) rfl (pa_cons (pv 0) pa_nil))) (pss_cons (ps_if (PW.pt (pw_or (pt_not (pt_val (pe_callB (r := rIsi K) call_isi rfl G.f_isinstance boot_isinstance (pa_cons (pv 1) (pa_cons (pe_ty rfl G.f_tuple boot_tuple) pa_nil))))) (pw_or1 (pt_cmpR op_gt (pe_callB (r := rLn K) call_len_seq rfl G.f_len boot_len (pa_cons (pv 1) pa_nil)) (pe_gi G.i_MOST_ROW rfl) (nomark _))))) (pss_one ps_never) pss_nil) (pss_cons (ps_for PassesOwn.never rfl (pi_enTK (K := K) rfl rfl G.f_enumerate (pa_cons (pv 1) pa_nil)) (pg_tupK (K := K) (n := 2) rfl rfl (pgs_cons (pg_name (i := 2) sc_made.nd rfl (Or.inl rfl) (Or.inr rfl)) (pgs_cons (pg_name (i := 3) sc_made.nd rfl (Or.inl rfl) (Or.inr rfl)) pgs_nil))) (pss_one (ps_if (pt_not (pt_val (pe_pr D_is_number hr (by decide) rfl (pa_cons (pv 3) (pa_cons pe_int (pa_cons (pe_op op_sub (pe_callB (r := rLn K) call_len_seq rfl G.f_len boot_len (pa_cons (pe_ixT (K := K) rfl (pv 0) pe_int) pa_nil)) pe_int) pa_nil)))))) (pss_one ps_never) pss_nil))) (pss_cons (ps_set (i := 4) sc_made.nd rfl (Or.inl rfl) (pe_pr D_still hr (by decide) rfl (pa_cons (pe_ixT (K := K) rfl (pv 0) pe_int) pa_nil))) (pss_cons (ps_for PassesOwn.never rfl (pi_tupK (K := K) rfl (pv 1)) (pg_name (i := 3) sc_made.nd rfl (Or.inl rfl) (Or.inr rfl)) (pss_one (ps_set (i := 4) sc_made.nd rfl (Or.inl rfl) (pe_pr D_then hr (by decide) rfl (pa_cons (pv 4) (pa_cons (pe_ixT (K := K) rfl (pe_ixT (K := K) rfl (pv 0) pe_int) (pv 3)) pa_nil)))))) (pss_one (ps_ret (pv 4))))))))⟩
abbrev N_parts : List Str := ["house"]
theorem sc_parts : FnScope N_parts ["house"] (defScope s_parts) := ⟨rfl, rfl, rfl, by decide +kernel, rfl, by decide +kernel, by decide +kernel⟩
noncomputable def wt_parts (G : Bl mg) {sp_need_house : Sp} (D_need_house : Pr P w K mg base 10 "need_house" ["value"] sp_need_house) {sp_parts_of : Sp} (D_parts_of : Pr P w K mg base 3 "parts_of" ["house"] sp_parts_of) {f : Addr} {cdv : Value} {A : Around} {outer : List PySem.Env} {s : Shared} {H : Hp} {E : XK} (hr : Room 10 (A.deeper (envOfC "parts" (defScope s_parts) s.heap.objs.size f cdv))) : { t : TS // PSs (cxOf CX0 P w K mg base N_parts "parts" (defScope s_parts) f cdv A outer s H E).nox (defBody s_parts) t } :=
  ⟨_, (pss_cons (ps_expr (pe_pr D_need_house hr (by decide) rfl (pa_cons (pv 0) pa_nil))) (pss_one (ps_ret (pe_callTy (r := rTupOf K) call_tuple_of rfl G.f_tuple boot_tuple (pa_cons (pe_pr D_parts_of hr (by decide) rfl (pa_cons (pv 0) pa_nil)) pa_nil)))))⟩
abbrev N_is_transitive : List Str := ["house"]
theorem sc_is_transitive : FnScope N_is_transitive ["house"] (defScope s_is_transitive) := ⟨rfl, rfl, rfl, by decide +kernel, rfl, by decide +kernel, by decide +kernel⟩
noncomputable def wt_is_transitive (G : Bl mg) {sp_need_house : Sp} (D_need_house : Pr P w K mg base 10 "need_house" ["value"] sp_need_house) {sp_parts_of : Sp} (D_parts_of : Pr P w K mg base 3 "parts_of" ["house"] sp_parts_of) {f : Addr} {cdv : Value} {A : Around} {outer : List PySem.Env} {s : Shared} {H : Hp} {E : XK} (hr : Room 10 (A.deeper (envOfC "is_transitive" (defScope s_is_transitive) s.heap.objs.size f cdv))) : { t : TS // PSs (cxOf CX0 P w K mg base N_is_transitive "is_transitive" (defScope s_is_transitive) f cdv A outer s H E).nox (defBody s_is_transitive) t } :=
  ⟨_, (pss_cons (ps_expr (pe_pr D_need_house hr (by decide) rfl (pa_cons (pv 0) pa_nil))) (pss_one (ps_ret (pe_cmpR op_eq (pe_callB (r := rLn K) call_len_seq rfl G.f_len boot_len (pa_cons (pe_pr D_parts_of hr (by decide) rfl (pa_cons (pv 0) pa_nil)) pa_nil)) pe_int (nomark _)))))⟩
abbrev N_rank : List Str := ["house"]
theorem sc_rank : FnScope N_rank ["house"] (defScope s_rank) := ⟨rfl, rfl, rfl, by decide +kernel, rfl, by decide +kernel, by decide +kernel⟩
noncomputable def wt_rank (G : Bl mg) {sp_need_house : Sp} (D_need_house : Pr P w K mg base 10 "need_house" ["value"] sp_need_house) {sp_pair_lots_of : Sp} (D_pair_lots_of : Pr P w K mg base 3 "pair_lots_of" ["house"] sp_pair_lots_of) {f : Addr} {cdv : Value} {A : Around} {outer : List PySem.Env} {s : Shared} {H : Hp} {E : XK} (hr : Room 10 (A.deeper (envOfC "rank" (defScope s_rank) s.heap.objs.size f cdv))) : { t : TS // PSs (cxOf CX0 P w K mg base N_rank "rank" (defScope s_rank) f cdv A outer s H E).nox (defBody s_rank) t } :=
  ⟨_, (pss_cons (ps_expr (pe_pr D_need_house hr (by decide) rfl (pa_cons (pv 0) pa_nil))) (pss_one (ps_ret (pe_callB (r := rLn K) call_len_seq rfl G.f_len boot_len (pa_cons (pe_pr D_pair_lots_of hr (by decide) rfl (pa_cons (pv 0) pa_nil)) pa_nil)))))⟩
abbrev N_likes : List Str := ["house", "turn"]
theorem sc_likes : FnScope N_likes ["house", "turn"] (defScope s_likes) := ⟨rfl, rfl, rfl, by decide +kernel, rfl, by decide +kernel, by decide +kernel⟩
noncomputable def wt_likes (G : Bl mg) {sp_need_house : Sp} (D_need_house : Pr P w K mg base 10 "need_house" ["value"] sp_need_house) {sp_need_turn : Sp} (D_need_turn : Pr P w K mg base 6 "need_turn" ["house", "value"] sp_need_turn) {sp_likes_of : Sp} (D_likes_of : Pr P w K mg base 4 "likes_of" ["house", "turn"] sp_likes_of) {f : Addr} {cdv : Value} {A : Around} {outer : List PySem.Env} {s : Shared} {H : Hp} {E : XK} (hr : Room 10 (A.deeper (envOfC "likes" (defScope s_likes) s.heap.objs.size f cdv))) : { t : TS // PSs (cxOf CX0 P w K mg base N_likes "likes" (defScope s_likes) f cdv A outer s H E).nox (defBody s_likes) t } :=
  ⟨_, (pss_cons (ps_expr (pe_pr D_need_house hr (by decide) rfl (pa_cons (pv 0) pa_nil))) (pss_cons (ps_expr (pe_pr D_need_turn hr (by decide) rfl (pa_cons (pv 0) (pa_cons (pv 1) pa_nil)))) (pss_one (ps_ret (pe_pr D_likes_of hr (by decide) rfl (pa_cons (pv 0) (pa_cons (pv 1) pa_nil)))))))⟩
abbrev N_stayers_of : List Str := ["turn", "hall", "other"]
theorem sc_stayers_of : FnScope N_stayers_of ["turn"] (defScope s_stayers_of) := ⟨rfl, rfl, rfl, by decide +kernel, rfl, by decide +kernel, by decide +kernel⟩
noncomputable def wt_stayers_of (G : Bl mg) {f : Addr} {cdv : Value} {A : Around} {outer : List PySem.Env} {s : Shared} {H : Hp} {E : XK} (hr : Room 0 (A.deeper (envOfC "stayers_of" (defScope s_stayers_of) s.heap.objs.size f cdv))) : { t : TS // PSs (cxOf CX0 P w K mg base N_stayers_of "stayers_of" (defScope s_stayers_of) f cdv A outer s H E).nox (defBody s_stayers_of) t } :=
  ⟨_, (pss_one (ps_ret (pe_callTy (r := rTupOf K) call_tuple_of rfl G.f_tuple boot_tuple (pa_cons (pe_lc (own := [("hall", 1), ("other", 2)]) rfl sc_stayers_of.nd (pi_enTK (K := K) rfl rfl G.f_enumerate (pa_cons (pv 0) pa_nil)) (blkOk_by (N := N_stayers_of) (sc := defScope s_stayers_of) (by decide +kernel)) (fun _ _ _ _ _ => (pg_tupK (K := K) (n := 2) rfl rfl (pgs_cons (pg_name (i := 1) sc_stayers_of.nd rfl (Or.inl rfl) (Or.inr rfl)) (pgs_cons (pg_name (i := 2) sc_stayers_of.nd rfl (Or.inl rfl) (Or.inr rfl)) pgs_nil)))) (fun _ _ _ _ _ => (pts_one (pt_cmpR op_eq (pv 1) (pv 2) (nomark _)))) (fun _ _ _ _ _ => (pv 1))) pa_nil))))⟩
abbrev N_stayers : List Str := ["house", "turn"]
theorem sc_stayers : FnScope N_stayers ["house", "turn"] (defScope s_stayers) := ⟨rfl, rfl, rfl, by decide +kernel, rfl, by decide +kernel, by decide +kernel⟩
noncomputable def wt_stayers (G : Bl mg) {sp_need_house : Sp} (D_need_house : Pr P w K mg base 10 "need_house" ["value"] sp_need_house) {sp_need_turn : Sp} (D_need_turn : Pr P w K mg base 6 "need_turn" ["house", "value"] sp_need_turn) {sp_stayers_of : Sp} (D_stayers_of : Pr P w K mg base 1 "stayers_of" ["turn"] sp_stayers_of) {f : Addr} {cdv : Value} {A : Around} {outer : List PySem.Env} {s : Shared} {H : Hp} {E : XK} (hr : Room 10 (A.deeper (envOfC "stayers" (defScope s_stayers) s.heap.objs.size f cdv))) : { t : TS // PSs (cxOf CX0 P w K mg base N_stayers "stayers" (defScope s_stayers) f cdv A outer s H E).nox (defBody s_stayers) t } :=
  ⟨_, (pss_cons (ps_expr (pe_pr D_need_house hr (by decide) rfl (pa_cons (pv 0) pa_nil))) (pss_cons (ps_expr (pe_pr D_need_turn hr (by decide) rfl (pa_cons (pv 0) (pa_cons (pv 1) pa_nil)))) (pss_one (ps_ret (pe_pr D_stayers_of hr (by decide) rfl (pa_cons (pv 1) pa_nil))))))⟩
abbrev N_table_of : List Str := ["house", "found", "turn"]
theorem sc_table_of : FnScope N_table_of ["house"] (defScope s_table_of) := ⟨rfl, rfl, rfl, by decide +kernel, rfl, by decide +kernel, by decide +kernel⟩
noncomputable def wt_table_of (G : Bl mg) {sp_members_of : Sp} (D_members_of : Pr P w K mg base 2 "members_of" ["house"] sp_members_of) {sp_stayers_of : Sp} (D_stayers_of : Pr P w K mg base 1 "stayers_of" ["turn"] sp_stayers_of) {f : Addr} {cdv : Value} {A : Around} {outer : List PySem.Env} {s : Shared} {H : Hp} {E : XK} (hr : Room 2 (A.deeper (envOfC "table_of" (defScope s_table_of) s.heap.objs.size f cdv))) : { t : TS // PSs (cxOf CX0 P w K mg base N_table_of "table_of" (defScope s_table_of) f cdv A outer s H E).nox (defBody s_table_of) t } :=
  ⟨_, (pss_cons (ps_set (i := 1) sc_table_of.nd rfl (Or.inl rfl) (pe_op op_rep (pe_lst (pa_cons pe_int pa_nil)) (pe_op op_add (pe_ixT (K := K) rfl (pv 0) pe_int) pe_int))) (pss_cons (ps_for PassesOwn.never rfl (pi_listK (K := K) rfl (pe_pr D_members_of hr (by decide) rfl (pa_cons (pv 0) pa_nil))) (pg_name (i := 2) sc_table_of.nd rfl (Or.inl rfl) (Or.inr rfl)) (pss_one (ps_augS (pv 1) (pe_callB (r := rLn K) call_len_seq rfl G.f_len boot_len (pa_cons (pe_pr D_stayers_of hr (by decide) rfl (pa_cons (pv 2) pa_nil)) pa_nil)) get_list pe_int ip_add set_list))) (pss_one (ps_ret (pv 1)))))⟩
abbrev N_table : List Str := ["house"]
theorem sc_table : FnScope N_table ["house"] (defScope s_table) := ⟨rfl, rfl, rfl, by decide +kernel, rfl, by decide +kernel, by decide +kernel⟩
noncomputable def wt_table (G : Bl mg) {sp_need_house : Sp} (D_need_house : Pr P w K mg base 10 "need_house" ["value"] sp_need_house) {sp_table_of : Sp} (D_table_of : Pr P w K mg base 3 "table_of" ["house"] sp_table_of) {f : Addr} {cdv : Value} {A : Around} {outer : List PySem.Env} {s : Shared} {H : Hp} {E : XK} (hr : Room 10 (A.deeper (envOfC "table" (defScope s_table) s.heap.objs.size f cdv))) : { t : TS // PSs (cxOf CX0 P w K mg base N_table "table" (defScope s_table) f cdv A outer s H E).nox (defBody s_table) t } :=
  ⟨_, (pss_cons (ps_expr (pe_pr D_need_house hr (by decide) rfl (pa_cons (pv 0) pa_nil))) (pss_one (ps_ret (pe_callTy (r := rTupOf K) call_tuple_of rfl G.f_tuple boot_tuple (pa_cons (pe_pr D_table_of hr (by decide) rfl (pa_cons (pv 0) pa_nil)) pa_nil)))))⟩
abbrev N_rings_of : List Str := ["turn", "found", "left", "ring", "hall", "one"]
theorem sc_rings_of : FnScope N_rings_of ["turn"] (defScope s_rings_of) := ⟨rfl, rfl, rfl, by decide +kernel, rfl, by decide +kernel, by decide +kernel⟩
noncomputable def wt_rings_of (G : Bl mg) {f : Addr} {cdv : Value} {A : Around} {outer : List PySem.Env} {s : Shared} {H : Hp} {E : XK} (hr : Room 0 (A.deeper (envOfC "rings_of" (defScope s_rings_of) s.heap.objs.size f cdv))) : { t : TS // PSs (cxOf CX0 P w K mg base N_rings_of "rings_of" (defScope s_rings_of) f cdv A outer s H E).nox (defBody s_rings_of) t } :=
  ⟨_, (pss_cons (ps_par (i := 1) (j := 2) rfl sc_rings_of.nd rfl rfl (by decide) rfl rfl (pa_cons (pe_lst pa_nil) (pa_cons (pe_listRg rfl rfl G.f_list (prg_1 rfl G.f_range (pe_callB (r := rLn K) call_len_seq rfl G.f_len boot_len (pa_cons (pv 0) pa_nil)))) pa_nil)) (by first | rfl | decide +kernel)) (pss_cons (ps_while PassesOwn.never (pt_tru (K := K) rfl (pv 2) (fun _ => rfl)) (pss_cons (ps_asg (pe_tup (pa_cons (pe_lst (pa_cons (pe_ixL (K := K) rfl (pv 2) pe_int) pa_nil)) (pa_cons (pe_ixT (K := K) rfl (pv 0) (pe_ixL (K := K) rfl (pv 2) pe_int)) pa_nil))) (pg_tupK (K := K) (n := 2) rfl rfl (pgs_cons (pg_name (i := 3) sc_rings_of.nd rfl (Or.inr rfl) (Or.inl rfl)) (pgs_cons (pg_name (i := 4) sc_rings_of.nd rfl (Or.inl rfl) (Or.inr rfl)) pgs_nil)))) (pss_cons (ps_while PassesOwn.never (pt_cmpR op_ne (pv 4) (pe_ixL (K := K) rfl (pv 3) pe_int) (nomark _)) (pss_cons (ps_expr (pe_bmK (K := K) rfl PySem.F.plainAttrs_list PySem.F.slot_list_append PySem.F.type_list_append mt_append (pv 3) (pa_cons (pv 4) pa_nil))) (pss_one (ps_set (i := 4) sc_rings_of.nd rfl (Or.inl rfl) (pe_ixT (K := K) rfl (pv 0) (pv 4)))))) (pss_cons (ps_expr (pe_bmK (K := K) rfl PySem.F.plainAttrs_list PySem.F.slot_list_append PySem.F.type_list_append mt_append (pv 1) (pa_cons (pe_callB (r := rLn K) call_len_seq rfl G.f_len boot_len (pa_cons (pv 3) pa_nil)) pa_nil))) (pss_one (ps_setLc (i := 2) (own := [("one", 5)]) rfl sc_rings_of.nd rfl rfl (sw_true rfl rfl rfl (by decide +kernel)) (pi_listK (K := K) rfl (pv 2)) (blkOk_by (N := N_rings_of) (sc := defScope s_rings_of) (by decide +kernel)) (fun _ _ _ _ _ => (pg_name (i := 5) sc_rings_of.nd rfl (Or.inl rfl) (Or.inr rfl))) (fun _ _ _ _ _ => (pts_one (pt_cmpR (r := rNotInD K) (op_notInD (hu65 hr)) (pv 5) (pv 3) (by with_unfolding_all rfl)))) (fun _ _ _ _ _ => (pv 5)))))))) (pss_one (ps_ret (pe_callB (r := rSrtI K) (cr_srtI rfl) rfl G.f_sorted boot_sorted (pa_cons (pv 1) pa_nil))))))⟩
abbrev N_rings : List Str := ["house", "turn"]
theorem sc_rings : FnScope N_rings ["house", "turn"] (defScope s_rings) := ⟨rfl, rfl, rfl, by decide +kernel, rfl, by decide +kernel, by decide +kernel⟩
noncomputable def wt_rings (G : Bl mg) {sp_need_house : Sp} (D_need_house : Pr P w K mg base 10 "need_house" ["value"] sp_need_house) {sp_need_turn : Sp} (D_need_turn : Pr P w K mg base 6 "need_turn" ["house", "value"] sp_need_turn) {sp_rings_of : Sp} (D_rings_of : Pr P w K mg base 1 "rings_of" ["turn"] sp_rings_of) {f : Addr} {cdv : Value} {A : Around} {outer : List PySem.Env} {s : Shared} {H : Hp} {E : XK} (hr : Room 10 (A.deeper (envOfC "rings" (defScope s_rings) s.heap.objs.size f cdv))) : { t : TS // PSs (cxOf CX0 P w K mg base N_rings "rings" (defScope s_rings) f cdv A outer s H E).nox (defBody s_rings) t } :=
  ⟨_, (pss_cons (ps_expr (pe_pr D_need_house hr (by decide) rfl (pa_cons (pv 0) pa_nil))) (pss_cons (ps_expr (pe_pr D_need_turn hr (by decide) rfl (pa_cons (pv 0) (pa_cons (pv 1) pa_nil)))) (pss_one (ps_ret (pe_callTy (r := rTupOf K) call_tuple_of rfl G.f_tuple boot_tuple (pa_cons (pe_pr D_rings_of hr (by decide) rfl (pa_cons (pv 1) pa_nil)) pa_nil))))))⟩
abbrev N_law_taken : List Str := ["_law_row", "_law_many", "_law_found", "_law_cell"]
theorem sc_law_taken : FnScope N_law_taken ["_law_row", "_law_many"] (defScope s_law_taken) := ⟨rfl, rfl, rfl, by decide +kernel, rfl, by decide +kernel, by decide +kernel⟩
noncomputable def wt_law_taken (G : Bl mg) {f : Addr} {cdv : Value} {A : Around} {outer : List PySem.Env} {s : Shared} {H : Hp} {E : XK} (hr : Room 0 (A.deeper (envOfC "_law_taken" (defScope s_law_taken) s.heap.objs.size f cdv))) : { t : TS // PSs (cxOf CX0 P w K mg base N_law_taken "_law_taken" (defScope s_law_taken) f cdv A outer s H E).nox (defBody s_law_taken) t } :=
  ⟨_, (pss_cons (ps_if (pt_cmpR op_gt (pe_ixL (K := K) rfl (pv 0) pe_int) pe_int (nomark _)) (pss_cons (ps_set (i := 2) sc_law_taken.nd rfl (Or.inl rfl) (pe_op op_mod (pe_callTy call_int1 rfl G.f_int boot_int (pa_cons (pe_ixL (K := K) rfl (pv 0) pe_int) pa_nil)) (pv 1))) (pss_cons (ps_asg (pe_op op_fdiv (pe_ixL (K := K) rfl (pv 0) pe_int) (pv 1)) (pg_sub (pv 0) pe_int set_list)) (pss_one (ps_ret (pv 2))))) pss_nil) (pss_cons (ps_asg (pe_op op_add (pe_ixL (K := K) rfl (pv 0) pe_int) pe_int) (pg_sub (pv 0) pe_int set_list)) (pss_cons (ps_if (pt_cmpR op_gt (pe_ixL (K := K) rfl (pv 0) pe_int) (pe_callB (r := rLn K) call_len_seq rfl G.f_len boot_len (pa_cons (pe_ixL (K := K) rfl (pv 0) pe_int) pa_nil)) (nomark _)) (pss_cons (ps_asg (pe_op op_mod (pe_callTy call_int1 rfl G.f_int boot_int (pa_cons (pe_op op_add (pe_op op_mul (pe_ixL (K := K) rfl (pv 0) pe_int) pe_int) pe_int) pa_nil)) pe_int) (pg_sub (pv 0) pe_int set_list)) (pss_one (ps_ret (pe_op op_mod (pe_callTy call_int1 rfl G.f_int boot_int (pa_cons (pe_op op_fdiv (pe_ixL (K := K) rfl (pv 0) pe_int) pe_int) pa_nil)) (pv 1))))) pss_nil) (pss_cons (ps_set (i := 3) sc_law_taken.nd rfl (Or.inl rfl) (pe_ixL (K := K) rfl (pe_ixL (K := K) rfl (pv 0) pe_int) (pe_op op_sub (pe_ixL (K := K) rfl (pv 0) pe_int) pe_int))) (pss_cons (ps_asg (pe_op op_mod (pe_callTy call_int1 rfl G.f_int boot_int (pa_cons (pe_op op_add (pe_op op_add (pe_op op_mul (pe_ixL (K := K) rfl (pv 0) pe_int) pe_int) (pv 3)) pe_int) pa_nil)) pe_int) (pg_sub (pv 0) pe_int set_list)) (pss_cons (ps_if (pt_cmpR op_ge (pv 3) (pe_op op_pow pe_int pe_int) (nomark _)) (pss_one (ps_asg (pe_op op_fdiv (pv 3) (pv 1)) (pg_sub (pv 0) pe_int set_list))) pss_nil) (pss_one (ps_ret (pe_op op_mod (pe_callTy call_int1 rfl G.f_int boot_int (pa_cons (pv 3) pa_nil)) (pv 1))))))))))⟩
abbrev N_law_pick : List Str := ["_law_row", "_law_things"]
theorem sc_law_pick : FnScope N_law_pick ["_law_row", "_law_things"] (defScope s_law_pick) := ⟨rfl, rfl, rfl, by decide +kernel, rfl, by decide +kernel, by decide +kernel⟩
noncomputable def wt_law_pick (G : Bl mg) {sp_law_taken : Sp} (D_law_taken : Pr P w K mg base 1 "_law_taken" ["_law_row", "_law_many"] sp_law_taken) {f : Addr} {cdv : Value} {A : Around} {outer : List PySem.Env} {s : Shared} {H : Hp} {E : XK} (hr : Room 1 (A.deeper (envOfC "_law_pick" (defScope s_law_pick) s.heap.objs.size f cdv))) : { t : TS // PSs (cxOf CX0 P w K mg base N_law_pick "_law_pick" (defScope s_law_pick) f cdv A outer s H E).nox (defBody s_law_pick) t } :=
  ⟨_, (pss_one (ps_ret (pe_ixL (K := K) rfl (pv 1) (pe_pr D_law_taken hr (by decide) rfl (pa_cons (pv 0) (pa_cons (pe_callB (r := rLn K) call_len_seq rfl G.f_len boot_len (pa_cons (pv 1) pa_nil)) pa_nil))))))⟩
abbrev N_law_alike : List Str := ["_law_found", "_law_due", "_law_k"]
theorem sc_law_alike : FnScope N_law_alike ["_law_found", "_law_due"] (defScope s_law_alike) := ⟨rfl, rfl, rfl, by decide +kernel, rfl, by decide +kernel, by decide +kernel⟩
noncomputable def wt_law_alike {kk : Nat} (G : Bl mg) {sp_law_alike : Sp} (D_law_alike : Pr P w K mg base kk "_law_alike" ["_law_found", "_law_due"] sp_law_alike) {f : Addr} {cdv : Value} {A : Around} {outer : List PySem.Env} {s : Shared} {H : Hp} {E : XK} (hr : Room kk (A.deeper (envOfC "_law_alike" (defScope s_law_alike) s.heap.objs.size f cdv))) : { t : TS // PSs (cxOf CX0 P w K mg base N_law_alike "_law_alike" (defScope s_law_alike) f cdv A outer s H E).nox (defBody s_law_alike) t } :=
  ⟨_, (pss_cons (ps_if (pt_val (pe_callB (r := rIsiT K) call_isiT rfl G.f_isinstance boot_isinstance (pa_cons (pv 1) (pa_cons (pe_tup (pa_cons (pe_ty rfl G.f_tuple boot_tuple) (pa_cons (pe_ty rfl G.f_list boot_list) pa_nil))) pa_nil)))) (pss_cons (ps_if (PW.pt (pw_or (pt_not (pt_val (pe_callB (r := rIsiT K) call_isiT rfl G.f_isinstance boot_isinstance (pa_cons (pv 0) (pa_cons (pe_tup (pa_cons (pe_ty rfl G.f_tuple boot_tuple) (pa_cons (pe_ty rfl G.f_list boot_list) pa_nil))) pa_nil))))) (pw_or1 (pt_cmpR op_ne (pe_callB (r := rIsi K) call_isi rfl G.f_isinstance boot_isinstance (pa_cons (pv 0) (pa_cons (pe_ty rfl G.f_list boot_list) pa_nil))) (pe_callB (r := rIsi K) call_isi rfl G.f_isinstance boot_isinstance (pa_cons (pv 1) (pa_cons (pe_ty rfl G.f_list boot_list) pa_nil))) (nomark _))))) (pss_one (ps_ret pe_bl)) pss_nil) (pss_cons (ps_if (pt_cmpR op_ne (pe_callB (r := rLn K) call_len_seq rfl G.f_len boot_len (pa_cons (pv 0) pa_nil)) (pe_callB (r := rLn K) call_len_seq rfl G.f_len boot_len (pa_cons (pv 1) pa_nil)) (nomark _)) (pss_one (ps_ret pe_bl)) pss_nil) (pss_one (ps_ret (pe_cmpR (r := rEqD K) (op_eqD (hu64 hr)) (pe_lc (own := [("_law_k", 2)]) rfl sc_law_alike.nd (pi_range1 rfl G.f_range (pa_cons (pe_callB (r := rLn K) call_len_seq rfl G.f_len boot_len (pa_cons (pv 1) pa_nil)) pa_nil)) (blkOk_by (N := N_law_alike) (sc := defScope s_law_alike) (by decide +kernel)) (fun _ _ _ _ _ => (pg_name (i := 2) sc_law_alike.nd rfl (Or.inl rfl) (Or.inr rfl))) (fun _ _ _ _ _ => (pts_one (pt_not (pt_val (pe_pr D_law_alike hr (Nat.le_refl _) rfl (pa_cons (pe_ixE (K := K) rfl (pv 0) (pv 2)) (pa_cons (pe_ixE (K := K) rfl (pv 1) (pv 2)) pa_nil))))))) (fun _ _ _ _ _ => (pv 2))) (pe_lst pa_nil) (nomark _)))))) pss_nil) (pss_cons (ps_if (PW.pt (pw_or (pt_cmpR op_isN (pv 1) pe_non (nomark _)) (pw_or1 (pt_val (pe_callB (r := rIsi K) call_isi rfl G.f_isinstance boot_isinstance (pa_cons (pv 1) (pa_cons (pe_ty rfl G.f_str boot_str) pa_nil))))))) (pss_one (ps_ret (pe_and (pe_cmpR op_eq (pv 0) (pv 1) (nomark _)) (pe_one (pe_cmpR op_eq (pe_callB (r := rIsi K) call_isi rfl G.f_isinstance boot_isinstance (pa_cons (pv 0) (pa_cons (pe_ty rfl G.f_str boot_str) pa_nil))) (pe_callB (r := rIsi K) call_isi rfl G.f_isinstance boot_isinstance (pa_cons (pv 1) (pa_cons (pe_ty rfl G.f_str boot_str) pa_nil))) (nomark _)))))) pss_nil) (pss_one (ps_ret (pe_and (pe_callB (r := rIsi K) call_isi rfl G.f_isinstance boot_isinstance (pa_cons (pv 0) (pa_cons (pe_ty rfl G.f_int boot_int) pa_nil))) (pe_and (pe_cmpR op_eq (pe_callB (r := rIsi K) call_isi rfl G.f_isinstance boot_isinstance (pa_cons (pv 0) (pa_cons (pe_ty rfl G.f_bool boot_bool) pa_nil))) (pe_callB (r := rIsi K) call_isi rfl G.f_isinstance boot_isinstance (pa_cons (pv 1) (pa_cons (pe_ty rfl G.f_bool boot_bool) pa_nil))) (nomark _)) (pe_one (pe_cmpR op_eq (pv 0) (pv 1) (nomark _)))))))))⟩
abbrev N_law_turn : List Str := ["_law_row", "_law_halls", "_law_found", "_law_left"]
theorem sc_law_turn : FnScope N_law_turn ["_law_row", "_law_halls"] (defScope s_law_turn) := ⟨rfl, rfl, rfl, by decide +kernel, rfl, by decide +kernel, by decide +kernel⟩
noncomputable def wt_law_turn (G : Bl mg) {sp_law_taken : Sp} (D_law_taken : Pr P w K mg base 1 "_law_taken" ["_law_row", "_law_many"] sp_law_taken) {f : Addr} {cdv : Value} {A : Around} {outer : List PySem.Env} {s : Shared} {H : Hp} {E : XK} (hr : Room 1 (A.deeper (envOfC "_law_turn" (defScope s_law_turn) s.heap.objs.size f cdv))) : { t : TS // PSs (cxOf CX0 P w K mg base N_law_turn "_law_turn" (defScope s_law_turn) f cdv A outer s H E).nox (defBody s_law_turn) t } :=
  ⟨_, (pss_cons (ps_par (i := 2) (j := 3) rfl sc_law_turn.nd rfl rfl (by decide) rfl rfl (pa_cons (pe_tup pa_nil) (pa_cons (pe_listRg rfl rfl G.f_list (prg_1 rfl G.f_range (pv 1))) pa_nil)) (by first | rfl | decide +kernel)) (pss_cons (ps_while PassesOwn.never (pt_cmpR (r := rNeD K) (op_neD (hu64 hr)) (pv 3) (pe_lst pa_nil) (nomark _)) (pss_one (ps_set (i := 2) sc_law_turn.nd rfl (Or.inl rfl) (pe_op (r := rCatA K) op_catA (pv 2) (pe_tup (pa_cons (pe_bmK (K := K) rfl PySem.F.plainAttrs_list PySem.F.slot_list_pop PySem.F.type_list_pop mt_popAt (pv 3) (pa_cons (pe_pr D_law_taken hr (by decide) rfl (pa_cons (pv 0) (pa_cons (pe_callB (r := rLn K) call_len_seq rfl G.f_len boot_len (pa_cons (pv 3) pa_nil)) pa_nil))) pa_nil)) pa_nil)))))) (pss_one (ps_ret (pv 2)))))⟩
abbrev N_law_circle : List Str := ["_law_halls", "_law_step", "_law_hall"]
theorem sc_law_circle : FnScope N_law_circle ["_law_halls", "_law_step"] (defScope s_law_circle) := ⟨rfl, rfl, rfl, by decide +kernel, rfl, by decide +kernel, by decide +kernel⟩
noncomputable def wt_law_circle (G : Bl mg) {f : Addr} {cdv : Value} {A : Around} {outer : List PySem.Env} {s : Shared} {H : Hp} {E : XK} (hr : Room 0 (A.deeper (envOfC "_law_circle" (defScope s_law_circle) s.heap.objs.size f cdv))) : { t : TS // PSs (cxOf CX0 P w K mg base N_law_circle "_law_circle" (defScope s_law_circle) f cdv A outer s H E).nox (defBody s_law_circle) t } :=
  ⟨_, (pss_one (ps_ret (pe_callTy (r := rTupOf K) call_tuple_of rfl G.f_tuple boot_tuple (pa_cons (pe_lc (own := [("_law_hall", 2)]) rfl sc_law_circle.nd (pi_range1 rfl G.f_range (pa_cons (pv 0) pa_nil)) (blkOk_by (N := N_law_circle) (sc := defScope s_law_circle) (by decide +kernel)) (fun _ _ _ _ _ => (pg_name (i := 2) sc_law_circle.nd rfl (Or.inl rfl) (Or.inr rfl))) (fun _ _ _ _ _ => pts_nil) (fun _ _ _ _ _ => (pe_op op_mod (pe_op op_add (pv 2) (pv 1)) (pv 0)))) pa_nil))))⟩
abbrev N_law_members : List Str := ["_law_maps", "_law_halls", "_law_found", "_law_last", "_law_one", "_law_turn_here", "_law_later", "_law_hall"]
theorem sc_law_members : FnScope N_law_members ["_law_maps", "_law_halls"] (defScope s_law_members) := ⟨rfl, rfl, rfl, by decide +kernel, rfl, by decide +kernel, by decide +kernel⟩
noncomputable def wt_law_members (G : Bl mg) {f : Addr} {cdv : Value} {A : Around} {outer : List PySem.Env} {s : Shared} {H : Hp} {E : XK} (hr : Room 0 (A.deeper (envOfC "_law_members" (defScope s_law_members) s.heap.objs.size f cdv))) : { t : TS // PSs (cxOf CX0 P w K mg base N_law_members "_law_members" (defScope s_law_members) f cdv A outer s H E).nox (defBody s_law_members) t } :=
  ⟨_, (pss_cons (ps_par (i := 2) (j := 3) rfl sc_law_members.nd rfl rfl (by decide) rfl rfl (pa_cons (pe_disXK (P := P) (w := w) rfl rfl (hu1 hr) (pe_tupRF rfl rfl G.f_tuple (prg_1 rfl G.f_range (pv 1)))) (pa_cons (pe_lst (pa_cons (pe_tupRF rfl rfl G.f_tuple (prg_1 rfl G.f_range (pv 1))) pa_nil)) pa_nil)) (by first | rfl | decide +kernel)) (pss_cons (ps_while PassesOwn.never (pt_cmpR (r := rNeD K) (op_neD (hu64 hr)) (pv 3) (pe_lst pa_nil) (nomark _)) (pss_cons (ps_set (i := 4) sc_law_members.nd rfl (Or.inl rfl) (pe_bm0K (K := K) rfl PySem.F.plainAttrs_list PySem.F.slot_list_pop PySem.F.type_list_pop mt_pop (pv 3))) (pss_one (ps_for PassesOwn.never rfl (pi_tupK (K := K) rfl (pv 0)) (pg_name (i := 5) sc_law_members.nd rfl (Or.inr rfl) (Or.inl rfl)) (pss_cons (ps_set (i := 6) sc_law_members.nd rfl (Or.inl rfl) (pe_callTy (r := rTupF K) cr_tupF rfl G.f_tuple boot_tuple (pa_cons (pe_lc (own := [("_law_hall", 7)]) rfl sc_law_members.nd (pi_tupK (K := K) rfl (pv 4)) (blkOk_by (N := N_law_members) (sc := defScope s_law_members) (by decide +kernel)) (fun _ _ _ _ _ => (pg_name (i := 7) sc_law_members.nd rfl (Or.inl rfl) (Or.inr rfl))) (fun _ _ _ _ _ => pts_nil) (fun _ _ _ _ _ => (pe_ixT (K := K) rfl (pv 5) (pv 7)))) pa_nil))) (pss_one (ps_if (pt_cmpR (r := rNotInX P w) (op_notInX (hu1 hr)) (pv 6) (pv 2) (by with_unfolding_all rfl)) (pss_cons (ps_asg pe_bl (pg_sub (pv 2) (pv 6) (set_XK (P := P) (w := w) rfl rfl (hu1 hr)))) (pss_one (ps_expr (pe_bmK (K := K) rfl PySem.F.plainAttrs_list PySem.F.slot_list_append PySem.F.type_list_append mt_append (pv 3) (pa_cons (pv 6) pa_nil))))) pss_nil))))))) (pss_one (ps_ret (pe_callTy (r := rLstX P w) (cr_lstX rfl) rfl G.f_list boot_list (pa_cons (pv 2) pa_nil))))))⟩
abbrev N_law_known_groups : List Str := ["_law_rows"]
theorem sc_law_known_groups : FnScope N_law_known_groups [] (defScope s_law_known_groups) := ⟨rfl, rfl, rfl, by decide +kernel, rfl, by decide +kernel, by decide +kernel⟩
noncomputable def wt_law_known_groups (G : Bl mg) {sp_law_circle : Sp} (D_law_circle : Pr P w K mg base 1 "_law_circle" ["_law_halls", "_law_step"] sp_law_circle) {f : Addr} {cdv : Value} {A : Around} {outer : List PySem.Env} {s : Shared} {H : Hp} {E : XK} (hr : Room 1 (A.deeper (envOfC "_law_known_groups" (defScope s_law_known_groups) s.heap.objs.size f cdv))) : { t : TS // PSs (cxOf CX0 P w K mg base N_law_known_groups "_law_known_groups" (defScope s_law_known_groups) f cdv A outer s H E).nox (defBody s_law_known_groups) t } :=
  ⟨_, (pss_cons (ps_set (i := 0) sc_law_known_groups.nd rfl (Or.inl rfl) (pe_lst (pa_cons (pe_tup (pa_cons pe_int (pa_cons (pe_tup (pa_cons (pe_tup (pa_cons pe_int (pa_cons pe_int pa_nil))) pa_nil)) pa_nil))) (pa_cons (pe_tup (pa_cons pe_int (pa_cons (pe_tup (pa_cons (pe_tup (pa_cons pe_int (pa_cons pe_int (pa_cons pe_int pa_nil)))) pa_nil)) pa_nil))) (pa_cons (pe_tup (pa_cons pe_int (pa_cons (pe_tup (pa_cons (pe_tup (pa_cons pe_int (pa_cons pe_int (pa_cons pe_int pa_nil)))) (pa_cons (pe_tup (pa_cons pe_int (pa_cons pe_int (pa_cons pe_int pa_nil)))) pa_nil))) pa_nil))) pa_nil))))) (pss_cons (ps_set (i := 0) sc_law_known_groups.nd rfl (Or.inl rfl) (pe_op op_cat (pv 0) (pe_lst (pa_cons (pe_tup (pa_cons pe_int (pa_cons (pe_tup (pa_cons (pe_pr D_law_circle hr (by decide) rfl (pa_cons pe_int (pa_cons pe_int pa_nil))) pa_nil)) pa_nil))) (pa_cons (pe_tup (pa_cons pe_int (pa_cons (pe_tup (pa_cons (pe_tup (pa_cons pe_int (pa_cons pe_int (pa_cons pe_int (pa_cons pe_int pa_nil))))) (pa_cons (pe_tup (pa_cons pe_int (pa_cons pe_int (pa_cons pe_int (pa_cons pe_int pa_nil))))) pa_nil))) pa_nil))) pa_nil))))) (pss_cons (ps_set (i := 0) sc_law_known_groups.nd rfl (Or.inl rfl) (pe_op op_cat (pv 0) (pe_lst (pa_cons (pe_tup (pa_cons pe_int (pa_cons (pe_tup (pa_cons (pe_tup (pa_cons pe_int (pa_cons pe_int (pa_cons pe_int (pa_cons pe_int pa_nil))))) (pa_cons (pe_tup (pa_cons pe_int (pa_cons pe_int (pa_cons pe_int (pa_cons pe_int pa_nil))))) pa_nil))) pa_nil))) (pa_cons (pe_tup (pa_cons pe_int (pa_cons (pe_tup (pa_cons (pe_pr D_law_circle hr (by decide) rfl (pa_cons pe_int (pa_cons pe_int pa_nil))) (pa_cons (pe_tup (pa_cons pe_int (pa_cons pe_int (pa_cons pe_int (pa_cons pe_int pa_nil))))) pa_nil))) pa_nil))) pa_nil))))) (pss_cons (ps_set (i := 0) sc_law_known_groups.nd rfl (Or.inl rfl) (pe_op op_cat (pv 0) (pe_lst (pa_cons (pe_tup (pa_cons pe_int (pa_cons (pe_tup (pa_cons (pe_tup (pa_cons pe_int (pa_cons pe_int (pa_cons pe_int (pa_cons pe_int pa_nil))))) (pa_cons (pe_tup (pa_cons pe_int (pa_cons pe_int (pa_cons pe_int (pa_cons pe_int pa_nil))))) pa_nil))) pa_nil))) pa_nil)))) (pss_cons (ps_set (i := 0) sc_law_known_groups.nd rfl (Or.inl rfl) (pe_op op_cat (pv 0) (pe_lst (pa_cons (pe_tup (pa_cons pe_int (pa_cons (pe_tup (pa_cons (pe_pr D_law_circle hr (by decide) rfl (pa_cons pe_int (pa_cons pe_int pa_nil))) pa_nil)) pa_nil))) (pa_cons (pe_tup (pa_cons pe_int (pa_cons (pe_tup (pa_cons (pe_pr D_law_circle hr (by decide) rfl (pa_cons pe_int (pa_cons pe_int pa_nil))) (pa_cons (pe_tup (pa_cons pe_int (pa_cons pe_int (pa_cons pe_int (pa_cons pe_int (pa_cons pe_int pa_nil)))))) pa_nil))) pa_nil))) pa_nil))))) (pss_cons (ps_set (i := 0) sc_law_known_groups.nd rfl (Or.inl rfl) (pe_op op_cat (pv 0) (pe_lst (pa_cons (pe_tup (pa_cons pe_int (pa_cons (pe_tup (pa_cons (pe_pr D_law_circle hr (by decide) rfl (pa_cons pe_int (pa_cons pe_int pa_nil))) (pa_cons (pe_tup (pa_cons pe_int (pa_cons pe_int (pa_cons pe_int (pa_cons pe_int (pa_cons pe_int pa_nil)))))) pa_nil))) pa_nil))) pa_nil)))) (pss_cons (ps_set (i := 0) sc_law_known_groups.nd rfl (Or.inl rfl) (pe_op op_cat (pv 0) (pe_lst (pa_cons (pe_tup (pa_cons pe_int (pa_cons (pe_tup (pa_cons (pe_tup (pa_cons pe_int (pa_cons pe_int (pa_cons pe_int (pa_cons pe_int (pa_cons pe_int pa_nil)))))) (pa_cons (pe_tup (pa_cons pe_int (pa_cons pe_int (pa_cons pe_int (pa_cons pe_int (pa_cons pe_int pa_nil)))))) pa_nil))) pa_nil))) (pa_cons (pe_tup (pa_cons pe_int (pa_cons (pe_tup (pa_cons (pe_pr D_law_circle hr (by decide) rfl (pa_cons pe_int (pa_cons pe_int pa_nil))) pa_nil)) pa_nil))) pa_nil))))) (pss_cons (ps_set (i := 0) sc_law_known_groups.nd rfl (Or.inl rfl) (pe_op op_cat (pv 0) (pe_lst (pa_cons (pe_tup (pa_cons pe_int (pa_cons (pe_tup (pa_cons (pe_pr D_law_circle hr (by decide) rfl (pa_cons pe_int (pa_cons pe_int pa_nil))) (pa_cons (pe_tup (pa_cons pe_int (pa_cons pe_int (pa_cons pe_int (pa_cons pe_int (pa_cons pe_int (pa_cons pe_int pa_nil))))))) pa_nil))) pa_nil))) pa_nil)))) (pss_cons (ps_set (i := 0) sc_law_known_groups.nd rfl (Or.inl rfl) (pe_op op_cat (pv 0) (pe_lst (pa_cons (pe_tup (pa_cons pe_int (pa_cons (pe_tup (pa_cons (pe_tup (pa_cons pe_int (pa_cons pe_int (pa_cons pe_int (pa_cons pe_int (pa_cons pe_int (pa_cons pe_int pa_nil))))))) (pa_cons (pe_tup (pa_cons pe_int (pa_cons pe_int (pa_cons pe_int (pa_cons pe_int (pa_cons pe_int (pa_cons pe_int pa_nil))))))) pa_nil))) pa_nil))) (pa_cons (pe_tup (pa_cons pe_int (pa_cons (pe_tup (pa_cons (pe_tup (pa_cons pe_int (pa_cons pe_int (pa_cons pe_int (pa_cons pe_int (pa_cons pe_int (pa_cons pe_int pa_nil))))))) (pa_cons (pe_tup (pa_cons pe_int (pa_cons pe_int (pa_cons pe_int (pa_cons pe_int (pa_cons pe_int (pa_cons pe_int pa_nil))))))) pa_nil))) pa_nil))) pa_nil))))) (pss_cons (ps_set (i := 0) sc_law_known_groups.nd rfl (Or.inl rfl) (pe_op op_cat (pv 0) (pe_lst (pa_cons (pe_tup (pa_cons pe_int (pa_cons (pe_tup (pa_cons (pe_pr D_law_circle hr (by decide) rfl (pa_cons pe_int (pa_cons pe_int pa_nil))) (pa_cons (pe_tup (pa_cons pe_int (pa_cons pe_int (pa_cons pe_int (pa_cons pe_int (pa_cons pe_int (pa_cons pe_int (pa_cons pe_int pa_nil)))))))) pa_nil))) pa_nil))) pa_nil)))) (pss_cons (ps_set (i := 0) sc_law_known_groups.nd rfl (Or.inl rfl) (pe_op op_cat (pv 0) (pe_lst (pa_cons (pe_tup (pa_cons pe_int (pa_cons (pe_tup (pa_cons (pe_pr D_law_circle hr (by decide) rfl (pa_cons pe_int (pa_cons pe_int pa_nil))) (pa_cons (pe_tup (pa_cons pe_int (pa_cons pe_int (pa_cons pe_int (pa_cons pe_int (pa_cons pe_int (pa_cons pe_int (pa_cons pe_int pa_nil)))))))) pa_nil))) pa_nil))) (pa_cons (pe_tup (pa_cons pe_int (pa_cons (pe_tup (pa_cons (pe_pr D_law_circle hr (by decide) rfl (pa_cons pe_int (pa_cons pe_int pa_nil))) pa_nil)) pa_nil))) pa_nil))))) (pss_cons (ps_set (i := 0) sc_law_known_groups.nd rfl (Or.inl rfl) (pe_op op_cat (pv 0) (pe_lst (pa_cons (pe_tup (pa_cons pe_int (pa_cons (pe_tup (pa_cons (pe_pr D_law_circle hr (by decide) rfl (pa_cons pe_int (pa_cons pe_int pa_nil))) pa_nil)) pa_nil))) (pa_cons (pe_tup (pa_cons pe_int (pa_cons (pe_tup (pa_cons (pe_tup (pa_cons pe_int (pa_cons pe_int (pa_cons pe_int (pa_cons pe_int (pa_cons pe_int (pa_cons pe_int (pa_cons pe_int (pa_cons pe_int pa_nil))))))))) (pa_cons (pe_tup (pa_cons pe_int (pa_cons pe_int (pa_cons pe_int (pa_cons pe_int (pa_cons pe_int (pa_cons pe_int (pa_cons pe_int (pa_cons pe_int pa_nil))))))))) pa_nil))) pa_nil))) pa_nil))))) (pss_cons (ps_set (i := 0) sc_law_known_groups.nd rfl (Or.inl rfl) (pe_op op_cat (pv 0) (pe_lst (pa_cons (pe_tup (pa_cons pe_int (pa_cons (pe_tup (pa_cons (pe_tup (pa_cons pe_int (pa_cons pe_int (pa_cons pe_int (pa_cons pe_int (pa_cons pe_int (pa_cons pe_int (pa_cons pe_int (pa_cons pe_int pa_nil))))))))) (pa_cons (pe_tup (pa_cons pe_int (pa_cons pe_int (pa_cons pe_int (pa_cons pe_int (pa_cons pe_int (pa_cons pe_int (pa_cons pe_int (pa_cons pe_int pa_nil))))))))) pa_nil))) pa_nil))) pa_nil)))) (pss_one (ps_ret (pe_op op_cat (pv 0) (pe_lst (pa_cons (pe_tup (pa_cons pe_int (pa_cons (pe_tup (pa_cons (pe_pr D_law_circle hr (by decide) rfl (pa_cons pe_int (pa_cons pe_int pa_nil))) (pa_cons (pe_tup (pa_cons pe_int (pa_cons pe_int (pa_cons pe_int (pa_cons pe_int (pa_cons pe_int (pa_cons pe_int (pa_cons pe_int (pa_cons pe_int pa_nil))))))))) pa_nil))) pa_nil))) pa_nil))))))))))))))))))⟩
abbrev N_law_mixed : List Str := ["_law_row", "_law_house_here", "_law_names", "_law_moved", "_law_one", "_law_found", "_law_hall"]
theorem sc_law_mixed : FnScope N_law_mixed ["_law_row", "_law_house_here"] (defScope s_law_mixed) := ⟨rfl, rfl, rfl, by decide +kernel, rfl, by decide +kernel, by decide +kernel⟩
noncomputable def wt_law_mixed (G : Bl mg) {sp_law_turn : Sp} (D_law_turn : Pr P w K mg base 2 "_law_turn" ["_law_row", "_law_halls"] sp_law_turn) {f : Addr} {cdv : Value} {A : Around} {outer : List PySem.Env} {s : Shared} {H : Hp} {E : XK} (hr : Room 2 (A.deeper (envOfC "_law_mixed" (defScope s_law_mixed) s.heap.objs.size f cdv))) : { t : TS // PSs (cxOf CX0 P w K mg base N_law_mixed "_law_mixed" (defScope s_law_mixed) f cdv A outer s H E).nox (defBody s_law_mixed) t } :=
  ⟨_, (pss_cons (ps_par (i := 2) (j := 3) rfl sc_law_mixed.nd rfl rfl (by decide) rfl rfl (pa_cons (pe_pr D_law_turn hr (by decide) rfl (pa_cons (pv 0) (pa_cons (pe_ixT (K := K) rfl (pv 1) pe_int) pa_nil))) (pa_cons (pe_lst pa_nil) pa_nil)) (by first | rfl | decide +kernel)) (pss_cons (ps_for PassesOwn.never rfl (pi_tupK (K := K) rfl (pe_ixT (K := K) rfl (pv 1) pe_int)) (pg_name (i := 4) sc_law_mixed.nd rfl (Or.inl rfl) (Or.inr rfl)) (pss_cons (ps_set (i := 5) sc_law_mixed.nd rfl (Or.inl rfl) (pe_op op_rep (pe_lst (pa_cons pe_int pa_nil)) (pe_ixT (K := K) rfl (pv 1) pe_int))) (pss_cons (ps_for PassesOwn.never rfl (pi_range1 rfl G.f_range (pa_cons (pe_ixT (K := K) rfl (pv 1) pe_int) pa_nil)) (pg_name (i := 6) sc_law_mixed.nd rfl (Or.inl rfl) (Or.inr rfl)) (pss_one (ps_asg (pe_ixT (K := K) rfl (pv 2) (pe_ixT (K := K) rfl (pv 4) (pv 6))) (pg_sub (pv 5) (pe_ixT (K := K) rfl (pv 2) (pv 6)) set_list)))) (pss_one (ps_expr (pe_bmK (K := K) rfl PySem.F.plainAttrs_list PySem.F.slot_list_append PySem.F.type_list_append mt_append (pv 3) (pa_cons (pe_callTy (r := rTupOf K) call_tuple_of rfl G.f_tuple boot_tuple (pa_cons (pv 5) pa_nil)) pa_nil))))))) (pss_one (ps_ret (pe_tup (pa_cons (pe_ixT (K := K) rfl (pv 1) pe_int) (pa_cons (pe_callTy (r := rTupOf K) call_tuple_of rfl G.f_tuple boot_tuple (pa_cons (pv 3) pa_nil)) pa_nil)))))))⟩
abbrev N_law_whole : List Str := ["_law_row"]
theorem sc_law_whole : FnScope N_law_whole ["_law_row"] (defScope s_law_whole) := ⟨rfl, rfl, rfl, by decide +kernel, rfl, by decide +kernel, by decide +kernel⟩
noncomputable def wt_law_whole (G : Bl mg) {sp_law_mixed : Sp} (D_law_mixed : Pr P w K mg base 3 "_law_mixed" ["_law_row", "_law_house_here"] sp_law_mixed) {sp_law_pick : Sp} (D_law_pick : Pr P w K mg base 2 "_law_pick" ["_law_row", "_law_things"] sp_law_pick) {sp_law_known_groups : Sp} (D_law_known_groups : Pr P w K mg base 2 "_law_known_groups" [] sp_law_known_groups) {f : Addr} {cdv : Value} {A : Around} {outer : List PySem.Env} {s : Shared} {H : Hp} {E : XK} (hr : Room 3 (A.deeper (envOfC "_law_whole" (defScope s_law_whole) s.heap.objs.size f cdv))) : { t : TS // PSs (cxOf CX0 P w K mg base N_law_whole "_law_whole" (defScope s_law_whole) f cdv A outer s H E).nox (defBody s_law_whole) t } :=
  ⟨_, (pss_one (ps_ret (pe_pr D_law_mixed hr (by decide) rfl (pa_cons (pv 0) (pa_cons (pe_pr D_law_pick hr (by decide) rfl (pa_cons (pv 0) (pa_cons (pe_pr0 D_law_known_groups hr (by decide) rfl) pa_nil))) pa_nil)))))⟩
abbrev N_law_house : List Str := ["_law_row", "_law_halls", "_law_letter"]
theorem sc_law_house : FnScope N_law_house ["_law_row"] (defScope s_law_house) := ⟨rfl, rfl, rfl, by decide +kernel, rfl, by decide +kernel, by decide +kernel⟩
noncomputable def wt_law_house (G : Bl mg) {sp_law_taken : Sp} (D_law_taken : Pr P w K mg base 1 "_law_taken" ["_law_row", "_law_many"] sp_law_taken) {sp_law_whole : Sp} (D_law_whole : Pr P w K mg base 4 "_law_whole" ["_law_row"] sp_law_whole) {sp_law_turn : Sp} (D_law_turn : Pr P w K mg base 2 "_law_turn" ["_law_row", "_law_halls"] sp_law_turn) {f : Addr} {cdv : Value} {A : Around} {outer : List PySem.Env} {s : Shared} {H : Hp} {E : XK} (hr : Room 4 (A.deeper (envOfC "_law_house" (defScope s_law_house) s.heap.objs.size f cdv))) : { t : TS // PSs (cxOf CX0 P w K mg base N_law_house "_law_house" (defScope s_law_house) f cdv A outer s H E).nox (defBody s_law_house) t } :=
  ⟨_, (pss_cons (ps_if (pt_cmpR op_eq (pe_pr D_law_taken hr (by decide) rfl (pa_cons (pv 0) (pa_cons pe_int pa_nil))) pe_int (nomark _)) (pss_one (ps_ret (pe_pr D_law_whole hr (by decide) rfl (pa_cons (pv 0) pa_nil)))) pss_nil) (pss_cons (ps_set (i := 1) sc_law_house.nd rfl (Or.inr rfl) (pe_op op_add pe_int (pe_pr D_law_taken hr (by decide) rfl (pa_cons (pv 0) (pa_cons pe_int pa_nil))))) (pss_one (ps_ret (pe_tup (pa_cons (pv 1) (pa_cons (pe_callTy (r := rTupOf K) call_tuple_of rfl G.f_tuple boot_tuple (pa_cons (pe_lc (own := [("_law_letter", 2)]) rfl sc_law_house.nd (pi_range1 rfl G.f_range (pa_cons (pe_op op_add pe_int (pe_pr D_law_taken hr (by decide) rfl (pa_cons (pv 0) (pa_cons pe_int pa_nil)))) pa_nil)) (blkOk_by (N := N_law_house) (sc := defScope s_law_house) (by decide +kernel)) (fun _ _ _ _ _ => (pg_name (i := 2) sc_law_house.nd rfl (Or.inl rfl) (Or.inr rfl))) (fun _ _ _ _ _ => pts_nil) (fun _ _ _ _ _ => (pe_pr D_law_turn hr (by decide) rfl (pa_cons (pv 0) (pa_cons (pv 1) pa_nil))))) pa_nil)) pa_nil)))))))⟩
abbrev N_law_stayers : List Str := ["_law_turn_here", "_law_hall"]
theorem sc_law_stayers : FnScope N_law_stayers ["_law_turn_here"] (defScope s_law_stayers) := ⟨rfl, rfl, rfl, by decide +kernel, rfl, by decide +kernel, by decide +kernel⟩
noncomputable def wt_law_stayers (G : Bl mg) {f : Addr} {cdv : Value} {A : Around} {outer : List PySem.Env} {s : Shared} {H : Hp} {E : XK} (hr : Room 0 (A.deeper (envOfC "_law_stayers" (defScope s_law_stayers) s.heap.objs.size f cdv))) : { t : TS // PSs (cxOf CX0 P w K mg base N_law_stayers "_law_stayers" (defScope s_law_stayers) f cdv A outer s H E).nox (defBody s_law_stayers) t } :=
  ⟨_, (pss_one (ps_ret (pe_callTy (r := rTupOf K) call_tuple_of rfl G.f_tuple boot_tuple (pa_cons (pe_lc (own := [("_law_hall", 1)]) rfl sc_law_stayers.nd (pi_range1 rfl G.f_range (pa_cons (pe_callB (r := rLn K) call_len_seq rfl G.f_len boot_len (pa_cons (pv 0) pa_nil)) pa_nil)) (blkOk_by (N := N_law_stayers) (sc := defScope s_law_stayers) (by decide +kernel)) (fun _ _ _ _ _ => (pg_name (i := 1) sc_law_stayers.nd rfl (Or.inl rfl) (Or.inr rfl))) (fun _ _ _ _ _ => (pts_one (pt_cmpR op_eq (pe_ixT (K := K) rfl (pv 0) (pv 1)) (pv 1) (nomark _)))) (fun _ _ _ _ _ => (pv 1))) pa_nil))))⟩
abbrev N_law_undone : List Str := ["_law_turn_here", "_law_hall"]
theorem sc_law_undone : FnScope N_law_undone ["_law_turn_here"] (defScope s_law_undone) := ⟨rfl, rfl, rfl, by decide +kernel, rfl, by decide +kernel, by decide +kernel⟩
noncomputable def wt_law_undone (G : Bl mg) {f : Addr} {cdv : Value} {A : Around} {outer : List PySem.Env} {s : Shared} {H : Hp} {E : XK} (hr : Room 0 (A.deeper (envOfC "_law_undone" (defScope s_law_undone) s.heap.objs.size f cdv))) : { t : TS // PSs (cxOf CX0 P w K mg base N_law_undone "_law_undone" (defScope s_law_undone) f cdv A outer s H E).nox (defBody s_law_undone) t } :=
  ⟨_, (pss_one (ps_ret (pe_callTy (r := rTupOf K) call_tuple_of rfl G.f_tuple boot_tuple (pa_cons (pe_lc (own := [("_law_hall", 1)]) rfl sc_law_undone.nd (pi_range1 rfl G.f_range (pa_cons (pe_callB (r := rLn K) call_len_seq rfl G.f_len boot_len (pa_cons (pv 0) pa_nil)) pa_nil)) (blkOk_by (N := N_law_undone) (sc := defScope s_law_undone) (by decide +kernel)) (fun _ _ _ _ _ => (pg_name (i := 1) sc_law_undone.nd rfl (Or.inl rfl) (Or.inr rfl))) (fun _ _ _ _ _ => pts_nil) (fun _ _ _ _ _ => (pe_indFK (K := K) rfl (pv 0) (pa_cons (pv 1) pa_nil)))) pa_nil))))⟩
abbrev N_law_then : List Str := ["_law_one", "_law_other", "_law_hall"]
theorem sc_law_then : FnScope N_law_then ["_law_one", "_law_other"] (defScope s_law_then) := ⟨rfl, rfl, rfl, by decide +kernel, rfl, by decide +kernel, by decide +kernel⟩
noncomputable def wt_law_then (G : Bl mg) {f : Addr} {cdv : Value} {A : Around} {outer : List PySem.Env} {s : Shared} {H : Hp} {E : XK} (hr : Room 0 (A.deeper (envOfC "_law_then" (defScope s_law_then) s.heap.objs.size f cdv))) : { t : TS // PSs (cxOf CX0 P w K mg base N_law_then "_law_then" (defScope s_law_then) f cdv A outer s H E).nox (defBody s_law_then) t } :=
  ⟨_, (pss_one (ps_ret (pe_callTy (r := rTupOf K) call_tuple_of rfl G.f_tuple boot_tuple (pa_cons (pe_lc (own := [("_law_hall", 2)]) rfl sc_law_then.nd (pi_tupK (K := K) rfl (pv 0)) (blkOk_by (N := N_law_then) (sc := defScope s_law_then) (by decide +kernel)) (fun _ _ _ _ _ => (pg_name (i := 2) sc_law_then.nd rfl (Or.inl rfl) (Or.inr rfl))) (fun _ _ _ _ _ => pts_nil) (fun _ _ _ _ _ => (pe_ixT (K := K) rfl (pv 1) (pv 2)))) pa_nil))))⟩
abbrev N_law_pairs : List Str := ["_law_house_here", "_law_left", "_law_found", "_law_one", "_law_other", "_law_lot", "_law_last", "_law_pair", "_law_turn_here"]
theorem sc_law_pairs : FnScope N_law_pairs ["_law_house_here"] (defScope s_law_pairs) := ⟨rfl, rfl, rfl, by decide +kernel, rfl, by decide +kernel, by decide +kernel⟩
noncomputable def wt_law_pairs (G : Bl mg) {f : Addr} {cdv : Value} {A : Around} {outer : List PySem.Env} {s : Shared} {H : Hp} {E : XK} (hr : Room 0 (A.deeper (envOfC "_law_pairs" (defScope s_law_pairs) s.heap.objs.size f cdv))) : { t : TS // PSs (cxOf CX0 P w K mg base N_law_pairs "_law_pairs" (defScope s_law_pairs) f cdv A outer s H E).nox (defBody s_law_pairs) t } :=
  ⟨_, (pss_cons (ps_par (i := 1) (j := 2) rfl sc_law_pairs.nd rfl rfl (by decide) rfl rfl (pa_cons (pe_lst pa_nil) (pa_cons (pe_lst pa_nil) pa_nil)) (by first | rfl | decide +kernel)) (pss_cons (ps_for PassesOwn.never rfl (pi_range1 rfl G.f_range (pa_cons (pe_ixT (K := K) rfl (pv 0) pe_int) pa_nil)) (pg_name (i := 3) sc_law_pairs.nd rfl (Or.inr rfl) (Or.inl rfl)) (pss_one (ps_set (i := 1) sc_law_pairs.nd rfl (Or.inl rfl) (pe_op op_cat (pv 1) (pe_lc (own := [("_law_other", 4)]) rfl sc_law_pairs.nd (pi_range1 rfl G.f_range (pa_cons (pe_ixT (K := K) rfl (pv 0) pe_int) pa_nil)) (blkOk_by (N := N_law_pairs) (sc := defScope s_law_pairs) (by decide +kernel)) (fun _ _ _ _ _ => (pg_name (i := 4) sc_law_pairs.nd rfl (Or.inl rfl) (Or.inr rfl))) (fun _ _ _ _ _ => pts_nil) (fun _ _ _ _ _ => (pe_tup (pa_cons (pv 3) (pa_cons (pv 4) pa_nil))))))))) (pss_cons (ps_while PassesOwn.never (pt_cmpR (r := rNeD K) (op_neD (hu64 hr)) (pv 1) (pe_lst pa_nil) (nomark _)) (pss_cons (ps_asg (pe_tup (pa_cons (pe_lst (pa_cons (pe_ixL (K := K) rfl (pv 1) pe_int) pa_nil)) (pa_cons (pe_lst (pa_cons (pe_ixL (K := K) rfl (pv 1) pe_int) pa_nil)) pa_nil))) (pg_tupK (K := K) (n := 2) rfl rfl (pgs_cons (pg_name (i := 5) sc_law_pairs.nd rfl (Or.inr rfl) (Or.inl rfl)) (pgs_cons (pg_name (i := 6) sc_law_pairs.nd rfl (Or.inl rfl) (Or.inr rfl)) pgs_nil)))) (pss_cons (ps_while PassesOwn.never (pt_cmpR (r := rNeD K) (op_neD (hu64 hr)) (pv 6) (pe_lst pa_nil) (nomark _)) (pss_cons (ps_set (i := 7) sc_law_pairs.nd rfl (Or.inl rfl) (pe_bm0K (K := K) rfl PySem.F.plainAttrs_list PySem.F.slot_list_pop PySem.F.type_list_pop mt_pop (pv 6))) (pss_one (ps_for PassesOwn.never rfl (pi_tupK (K := K) rfl (pe_ixT (K := K) rfl (pv 0) pe_int)) (pg_name (i := 8) sc_law_pairs.nd rfl (Or.inl rfl) (Or.inr rfl)) (pss_cons (ps_set (i := 4) sc_law_pairs.nd rfl (Or.inl rfl) (pe_tup (pa_cons (pe_ixT (K := K) rfl (pv 8) (pe_ixT (K := K) rfl (pv 7) pe_int)) (pa_cons (pe_ixT (K := K) rfl (pv 8) (pe_ixT (K := K) rfl (pv 7) pe_int)) pa_nil)))) (pss_one (ps_if (pt_cmpR (r := rNotInD K) (op_notInD (hu65 hr)) (pv 4) (pv 5) (by with_unfolding_all rfl)) (pss_cons (ps_expr (pe_bmK (K := K) rfl PySem.F.plainAttrs_list PySem.F.slot_list_append PySem.F.type_list_append mt_append (pv 5) (pa_cons (pv 4) pa_nil))) (pss_one (ps_expr (pe_bmK (K := K) rfl PySem.F.plainAttrs_list PySem.F.slot_list_append PySem.F.type_list_append mt_append (pv 6) (pa_cons (pv 4) pa_nil))))) pss_nil))))))) (pss_cons (ps_expr (pe_bmK (K := K) rfl PySem.F.plainAttrs_list PySem.F.slot_list_append PySem.F.type_list_append mt_append (pv 2) (pa_cons (pv 5) pa_nil))) (pss_one (ps_setLc (i := 1) (own := [("_law_pair", 7)]) rfl sc_law_pairs.nd rfl rfl (sw_true rfl rfl rfl (by decide +kernel)) (pi_listK (K := K) rfl (pv 1)) (blkOk_by (N := N_law_pairs) (sc := defScope s_law_pairs) (by decide +kernel)) (fun _ _ _ _ _ => (pg_name (i := 7) sc_law_pairs.nd rfl (Or.inl rfl) (Or.inr rfl))) (fun _ _ _ _ _ => (pts_one (pt_cmpR (r := rNotInD K) (op_notInD (hu65 hr)) (pv 7) (pv 5) (by with_unfolding_all rfl)))) (fun _ _ _ _ _ => (pv 7)))))))) (pss_one (ps_ret (pv 2))))))⟩
abbrev N_law_parts : List Str := ["_law_house_here", "_law_lots", "_law_lot", "_law_pair"]
theorem sc_law_parts : FnScope N_law_parts ["_law_house_here"] (defScope s_law_parts) := ⟨rfl, rfl, rfl, by decide +kernel, rfl, by decide +kernel, by decide +kernel⟩
noncomputable def wt_law_parts (G : Bl mg) {sp_law_pairs : Sp} (D_law_pairs : Pr P w K mg base 1 "_law_pairs" ["_law_house_here"] sp_law_pairs) {f : Addr} {cdv : Value} {A : Around} {outer : List PySem.Env} {s : Shared} {H : Hp} {E : XK} (hr : Room 1 (A.deeper (envOfC "_law_parts" (defScope s_law_parts) s.heap.objs.size f cdv))) : { t : TS // PSs (cxOf CX0 P w K mg base N_law_parts "_law_parts" (defScope s_law_parts) f cdv A outer s H E).nox (defBody s_law_parts) t } :=
  ⟨_, (pss_cons (ps_setLc (i := 1) (own := [("_law_lot", 2)]) rfl sc_law_parts.nd rfl rfl (sw_true rfl rfl rfl (by decide +kernel)) (pi_listK (K := K) rfl (pe_pr D_law_pairs hr (by decide) rfl (pa_cons (pv 0) pa_nil))) (blkOk_by (N := N_law_parts) (sc := defScope s_law_parts) (by decide +kernel)) (fun _ _ _ _ _ => (pg_name (i := 2) sc_law_parts.nd rfl (Or.inl rfl) (Or.inr rfl))) (fun _ _ _ _ _ => (pts_one (pt_cmpR op_eq (pe_ixT (K := K) rfl (pe_ixL (K := K) rfl (pv 2) pe_int) pe_int) (pe_ixT (K := K) rfl (pe_ixL (K := K) rfl (pv 2) pe_int) pe_int) (nomark _)))) (fun _ _ _ _ _ => (pe_callTy (r := rTupOf K) call_tuple_of rfl G.f_tuple boot_tuple (pa_cons (pe_callB (r := rSortedSet w) (cr_sortedSet rfl) rfl G.f_sorted boot_sorted (pa_cons (pe_callTy (r := rSetI K w) (cr_setI rfl) rfl G.f_set boot_set (pa_cons (pe_lc (own := [("_law_pair", 3)]) rfl sc_law_parts.nd (pi_listK (K := K) rfl (pv 2)) (blkOk_by (N := N_law_parts) (sc := scParts) (by decide +kernel)) (fun _ _ _ _ _ => (pg_name (i := 3) sc_law_parts.nd rfl (Or.inl rfl) (Or.inr rfl))) (fun _ _ _ _ _ => pts_nil) (fun _ _ _ _ _ => (pe_ixT (K := K) rfl (pv 3) pe_int))) pa_nil)) pa_nil)) pa_nil)))) (pss_one (ps_ret (pe_callB (r := rSrtT K P w) (cr_srtT rfl) rfl G.f_sorted boot_sorted (pa_cons (pv 1) pa_nil)))))⟩
abbrev N_law_rings : List Str := ["_law_turn_here", "_law_found", "_law_seen", "_law_hall", "_law_many"]
theorem sc_law_rings : FnScope N_law_rings ["_law_turn_here"] (defScope s_law_rings) := ⟨rfl, rfl, rfl, by decide +kernel, rfl, by decide +kernel, by decide +kernel⟩
noncomputable def wt_law_rings (G : Bl mg) {f : Addr} {cdv : Value} {A : Around} {outer : List PySem.Env} {s : Shared} {H : Hp} {E : XK} (hr : Room 0 (A.deeper (envOfC "_law_rings" (defScope s_law_rings) s.heap.objs.size f cdv))) : { t : TS // PSs (cxOf CX0 P w K mg base N_law_rings "_law_rings" (defScope s_law_rings) f cdv A outer s H E).nox (defBody s_law_rings) t } :=
  ⟨_, (pss_cons (ps_par (i := 1) (j := 2) rfl sc_law_rings.nd rfl rfl (by decide) rfl rfl (pa_cons (pe_lst pa_nil) (pa_cons (pe_lst pa_nil) pa_nil)) (by first | rfl | decide +kernel)) (pss_cons (ps_for PassesOwn.never rfl (pi_range1 rfl G.f_range (pa_cons (pe_callB (r := rLn K) call_len_seq rfl G.f_len boot_len (pa_cons (pv 0) pa_nil)) pa_nil)) (pg_name (i := 3) sc_law_rings.nd rfl (Or.inl rfl) (Or.inr rfl)) (pss_cons (ps_set (i := 4) sc_law_rings.nd rfl (Or.inl rfl) pe_int) (pss_cons (ps_while PassesOwn.never (pt_cmpR (r := rNotInD K) (op_notInD (hu65 hr)) (pv 3) (pv 2) (by with_unfolding_all rfl)) (pss_cons (ps_expr (pe_bmK (K := K) rfl PySem.F.plainAttrs_list PySem.F.slot_list_append PySem.F.type_list_append mt_append (pv 2) (pa_cons (pv 3) pa_nil))) (pss_one (ps_par (i := 3) (j := 4) rfl sc_law_rings.nd rfl rfl (by decide) rfl rfl (pa_cons (pe_ixT (K := K) rfl (pv 0) (pv 3)) (pa_cons (pe_op op_add (pv 4) pe_int) pa_nil)) (by first | rfl | decide +kernel))))) (pss_one (ps_set (i := 1) sc_law_rings.nd rfl (Or.inl rfl) (pe_op op_cat (pv 1) (pe_ifExp (pt_cmpR op_gt (pv 4) pe_int (nomark _)) (pe_lst (pa_cons (pv 4) pa_nil)) (pe_lst pa_nil)))))))) (pss_one (ps_ret (pe_callB (r := rSrtI K) (cr_srtI rfl) rfl G.f_sorted boot_sorted (pa_cons (pv 1) pa_nil))))))⟩
abbrev N_law : List Str := ["_law_script", "_law_row", "_law_house_here", "_law_halls", "_law_turns", "_law_whole_here", "_law_lots", "_law_told", "_law_some", "_law_due", "_law_counts", "_law_line", "_law_now", "_law_letter", "_law_way", "_law_turn_here", "_law_many"]
theorem sc_law : FnScope N_law ["_law_script"] (defScope s_law) := ⟨rfl, rfl, rfl, by decide +kernel, rfl, by decide +kernel, by decide +kernel⟩
noncomputable def wt_law (G : Bl mg) {sp_law_house : Sp} (D_law_house : Pr P w K mg base 5 "_law_house" ["_law_row"] sp_law_house) {sp_law_members : Sp} (D_law_members : Pr P w K mg base 1 "_law_members" ["_law_maps", "_law_halls"] sp_law_members) {sp_law_alike : Sp} (D_law_alike : Pr P w K mg base 6 "_law_alike" ["_law_found", "_law_due"] sp_law_alike) {sp_members : Sp} (D_members : Pr P w K mg base 11 "members" ["house"] sp_members) {sp_order : Sp} (D_order : Pr P w K mg base 11 "order" ["house"] sp_order) {sp_law_parts : Sp} (D_law_parts : Pr P w K mg base 2 "_law_parts" ["_law_house_here"] sp_law_parts) {sp_parts : Sp} (D_parts : Pr P w K mg base 11 "parts" ["house"] sp_parts) {sp_is_transitive : Sp} (D_is_transitive : Pr P w K mg base 11 "is_transitive" ["house"] sp_is_transitive) {sp_rank : Sp} (D_rank : Pr P w K mg base 11 "rank" ["house"] sp_rank) {sp_law_pairs : Sp} (D_law_pairs : Pr P w K mg base 1 "_law_pairs" ["_law_house_here"] sp_law_pairs) {sp_law_pick : Sp} (D_law_pick : Pr P w K mg base 2 "_law_pick" ["_law_row", "_law_things"] sp_law_pick) {sp_law_turn : Sp} (D_law_turn : Pr P w K mg base 2 "_law_turn" ["_law_row", "_law_halls"] sp_law_turn) {sp_is_member : Sp} (D_is_member : Pr P w K mg base 11 "is_member" ["house", "turn"] sp_is_member) {sp_stayers : Sp} (D_stayers : Pr P w K mg base 11 "stayers" ["house", "turn"] sp_stayers) {sp_rings : Sp} (D_rings : Pr P w K mg base 11 "rings" ["house", "turn"] sp_rings) {sp_law_stayers : Sp} (D_law_stayers : Pr P w K mg base 1 "_law_stayers" ["_law_turn_here"] sp_law_stayers) {sp_law_rings : Sp} (D_law_rings : Pr P w K mg base 1 "_law_rings" ["_law_turn_here"] sp_law_rings) {sp_law_then : Sp} (D_law_then : Pr P w K mg base 1 "_law_then" ["_law_one", "_law_other"] sp_law_then) {sp_law_undone : Sp} (D_law_undone : Pr P w K mg base 1 "_law_undone" ["_law_turn_here"] sp_law_undone) {sp_likes : Sp} (D_likes : Pr P w K mg base 11 "likes" ["house", "turn"] sp_likes) {sp_table : Sp} (D_table : Pr P w K mg base 11 "table" ["house"] sp_table) {sp_law_taken : Sp} (D_law_taken : Pr P w K mg base 1 "_law_taken" ["_law_row", "_law_many"] sp_law_taken) {sp_made : Sp} (D_made : Pr P w K mg base 11 "made" ["house", "row"] sp_made) {f : Addr} {cdv : Value} {A : Around} {outer : List PySem.Env} {s : Shared} {H : Hp} {E : XK} (hr : Room 12 (A.deeper (envOfC "law" (defScope s_law) s.heap.objs.size f cdv))) : { t : TS // PSs (cxOf CX0 P w K mg base N_law "law" (defScope s_law) f cdv A outer s H E).nox (defBody s_law) t } :=
  ⟨_, (pss_cons (ps_set (i := 1) sc_law.nd rfl (Or.inr rfl) (pe_lst (pa_cons (pv 0) (pa_cons pe_int (pa_cons pe_int (pa_cons pe_int pa_nil)))))) (pss_cons (ps_set (i := 2) sc_law.nd rfl (Or.inl rfl) (pe_pr D_law_house hr (by decide) rfl (pa_cons (pv 1) pa_nil))) (pss_cons (ps_asg (pv 2) (pg_tupK (K := K) (n := 2) rfl rfl (pgs_cons (pg_name (i := 3) sc_law.nd rfl (Or.inl rfl) (Or.inr rfl)) (pgs_cons (pg_name (i := 4) sc_law.nd rfl (Or.inr rfl) (Or.inl rfl)) pgs_nil)))) (pss_cons (ps_set (i := 5) sc_law.nd rfl (Or.inl rfl) (pe_callB (r := rSrtT K P w) (cr_srtT rfl) rfl G.f_sorted boot_sorted (pa_cons (pe_pr D_law_members hr (by decide) rfl (pa_cons (pv 4) (pa_cons (pv 3) pa_nil))) pa_nil))) (pss_cons (ps_if (pt_not (pt_val (pe_pr D_law_alike hr (by decide) rfl (pa_cons (pe_lst (pa_cons (pe_pr D_members hr (by decide) rfl (pa_cons (pv 2) pa_nil)) (pa_cons (pe_pr D_order hr (by decide) rfl (pa_cons (pv 2) pa_nil)) pa_nil))) (pa_cons (pe_lst (pa_cons (pe_callTy (r := rTupOf K) call_tuple_of rfl G.f_tuple boot_tuple (pa_cons (pv 5) pa_nil)) (pa_cons (pe_callB (r := rLn K) call_len_seq rfl G.f_len boot_len (pa_cons (pv 5) pa_nil)) pa_nil))) pa_nil))))) (pss_one (ps_ret pe_bl)) pss_nil) (pss_cons (ps_set (i := 6) sc_law.nd rfl (Or.inl rfl) (pe_pr D_law_parts hr (by decide) rfl (pa_cons (pv 2) pa_nil))) (pss_cons (ps_set (i := 7) sc_law.nd rfl (Or.inl rfl) (pe_lst (pa_cons (pe_pr D_parts hr (by decide) rfl (pa_cons (pv 2) pa_nil)) (pa_cons (pe_pr D_is_transitive hr (by decide) rfl (pa_cons (pv 2) pa_nil)) (pa_cons (pe_pr D_rank hr (by decide) rfl (pa_cons (pv 2) pa_nil)) pa_nil))))) (pss_cons (ps_if (pt_not (pt_val (pe_pr D_law_alike hr (by decide) rfl (pa_cons (pv 7) (pa_cons (pe_lst (pa_cons (pe_callTy (r := rTupOf K) call_tuple_of rfl G.f_tuple boot_tuple (pa_cons (pv 6) pa_nil)) (pa_cons (pe_cmpR op_eq (pe_callB (r := rLn K) call_len_seq rfl G.f_len boot_len (pa_cons (pv 6) pa_nil)) pe_int (nomark _)) (pa_cons (pe_callB (r := rLn K) call_len_seq rfl G.f_len boot_len (pa_cons (pe_pr D_law_pairs hr (by decide) rfl (pa_cons (pv 2) pa_nil)) pa_nil)) pa_nil)))) pa_nil))))) (pss_one (ps_ret pe_bl)) pss_nil) (pss_cons (ps_set (i := 8) sc_law.nd rfl (Or.inr rfl) (pe_pr D_law_pick hr (by decide) rfl (pa_cons (pv 1) (pa_cons (pe_lst (pa_cons (pe_pr D_law_turn hr (by decide) rfl (pa_cons (pv 1) (pa_cons (pv 3) pa_nil))) (pa_cons (pe_pr D_law_pick hr (by decide) rfl (pa_cons (pv 1) (pa_cons (pv 5) pa_nil))) pa_nil))) pa_nil)))) (pss_cons (ps_if (pt_not (pt_val (pe_pr D_law_alike hr (by decide) rfl (pa_cons (pe_pr D_is_member hr (by decide) rfl (pa_cons (pv 2) (pa_cons (pv 8) pa_nil))) (pa_cons (pe_cmpR (r := rInD K) (op_inD (hu65 hr)) (pv 8) (pv 5) (by with_unfolding_all rfl)) pa_nil))))) (pss_one (ps_ret pe_bl)) pss_nil) (pss_cons (ps_set (i := 7) sc_law.nd rfl (Or.inl rfl) (pe_lst (pa_cons (pe_pr D_stayers hr (by decide) rfl (pa_cons (pv 2) (pa_cons (pv 8) pa_nil))) (pa_cons (pe_pr D_rings hr (by decide) rfl (pa_cons (pv 2) (pa_cons (pv 8) pa_nil))) pa_nil)))) (pss_cons (ps_if (pt_not (pt_val (pe_pr D_law_alike hr (by decide) rfl (pa_cons (pv 7) (pa_cons (pe_lst (pa_cons (pe_pr D_law_stayers hr (by decide) rfl (pa_cons (pv 8) pa_nil)) (pa_cons (pe_callTy (r := rTupOf K) call_tuple_of rfl G.f_tuple boot_tuple (pa_cons (pe_pr D_law_rings hr (by decide) rfl (pa_cons (pv 8) pa_nil)) pa_nil)) pa_nil))) pa_nil))))) (pss_one (ps_ret pe_bl)) pss_nil) (pss_cons (ps_set (i := 9) sc_law.nd rfl (Or.inl rfl) (pe_callB (r := rSortedT K P w) (cr_sortedT rfl) rfl G.f_sorted boot_sorted (pa_cons (pe_callTy (r := rSetT K P w) (cr_setT rfl (hu64 hr)) rfl G.f_set boot_set (pa_cons (pe_lc (own := [("_law_way", 14)]) rfl sc_law.nd (pi_listK (K := K) rfl (pv 5)) (blkOk_by (N := N_law) (sc := defScope s_law) (by decide +kernel)) (fun _ _ _ _ _ => (pg_name (i := 14) sc_law.nd rfl (Or.inl rfl) (Or.inr rfl))) (fun _ _ _ _ _ => pts_nil) (fun _ _ _ _ _ => (pe_pr D_law_then hr (by decide) rfl (pa_cons (pe_pr D_law_then hr (by decide) rfl (pa_cons (pe_pr D_law_undone hr (by decide) rfl (pa_cons (pv 14) pa_nil)) (pa_cons (pv 8) pa_nil))) (pa_cons (pv 14) pa_nil))))) pa_nil)) pa_nil))) (pss_cons (ps_if (pt_not (pt_val (pe_pr D_law_alike hr (by decide) rfl (pa_cons (pe_pr D_likes hr (by decide) rfl (pa_cons (pv 2) (pa_cons (pv 8) pa_nil))) (pa_cons (pe_callTy (r := rTupOf K) call_tuple_of rfl G.f_tuple boot_tuple (pa_cons (pv 9) pa_nil)) pa_nil))))) (pss_one (ps_ret pe_bl)) pss_nil) (pss_cons (ps_set (i := 10) sc_law.nd rfl (Or.inr rfl) (pe_lc (own := [("_law_turn_here", 15)]) rfl sc_law.nd (pi_listK (K := K) rfl (pv 5)) (blkOk_by (N := N_law) (sc := defScope s_law) (by decide +kernel)) (fun _ _ _ _ _ => (pg_name (i := 15) sc_law.nd rfl (Or.inl rfl) (Or.inr rfl))) (fun _ _ _ _ _ => pts_nil) (fun _ _ _ _ _ => (pe_callB (r := rLn K) call_len_seq rfl G.f_len boot_len (pa_cons (pe_pr D_law_stayers hr (by decide) rfl (pa_cons (pv 15) pa_nil)) pa_nil))))) (pss_cons (ps_if (pt_not (pt_val (pe_pr D_law_alike hr (by decide) rfl (pa_cons (pe_pr D_table hr (by decide) rfl (pa_cons (pv 2) pa_nil)) (pa_cons (pe_callTy (r := rTupOf K) call_tuple_of rfl G.f_tuple boot_tuple (pa_cons (pe_lc (own := [("_law_many", 16)]) rfl sc_law.nd (pi_range1 rfl G.f_range (pa_cons (pe_op op_add (pv 3) pe_int) pa_nil)) (blkOk_by (N := N_law) (sc := defScope s_law) (by decide +kernel)) (fun _ _ _ _ _ => (pg_name (i := 16) sc_law.nd rfl (Or.inl rfl) (Or.inr rfl))) (fun _ _ _ _ _ => pts_nil) (fun _ _ _ _ _ => (pe_bmK (K := K) rfl PySem.F.plainAttrs_list PySem.F.slot_list_count PySem.F.type_list_count (show MtR _ _ (rCntI K) from mt_lcount) (pv 10) (pa_cons (pv 16) pa_nil)))) pa_nil)) pa_nil))))) (pss_one (ps_ret pe_bl)) pss_nil) (pss_cons (ps_if (PW.pt (pw_or (pt_cmpR op_ne (pe_callB (r := rSum K) (cr_sum rfl) rfl G.f_sum boot_sum (pa_cons (pv 10) pa_nil)) (pe_op op_mul (pe_callB (r := rLn K) call_len_seq rfl G.f_len boot_len (pa_cons (pv 5) pa_nil)) (pe_callB (r := rLn K) call_len_seq rfl G.f_len boot_len (pa_cons (pv 6) pa_nil))) (nomark _)) (pw_or1 (pt_cmpR op_ne (pe_callB (r := rSum K) (cr_sum rfl) rfl G.f_sum boot_sum (pa_cons (pe_lc (own := [("_law_many", 16)]) rfl sc_law.nd (pi_listK (K := K) rfl (pv 10)) (blkOk_by (N := N_law) (sc := defScope s_law) (by decide +kernel)) (fun _ _ _ _ _ => (pg_name (i := 16) sc_law.nd rfl (Or.inl rfl) (Or.inr rfl))) (fun _ _ _ _ _ => pts_nil) (fun _ _ _ _ _ => (pe_op op_mul (pv 16) (pv 16)))) pa_nil)) (pe_op op_mul (pe_callB (r := rLn K) call_len_seq rfl G.f_len boot_len (pa_cons (pv 5) pa_nil)) (pe_pr D_rank hr (by decide) rfl (pa_cons (pv 2) pa_nil))) (nomark _))))) (pss_one (ps_ret pe_bl)) pss_nil) (pss_cons (ps_par (i := 11) (j := 12) rfl sc_law.nd rfl rfl (by decide) rfl rfl (pa_cons (pe_callTy (r := rTupOf K) call_tuple_of rfl G.f_tuple boot_tuple (pa_cons (pe_lc (own := [("_law_turn_here", 15)]) rfl sc_law.nd (pi_range1 rfl G.f_range (pa_cons (pe_pr D_law_taken hr (by decide) rfl (pa_cons (pv 1) (pa_cons pe_int pa_nil))) pa_nil)) (blkOk_by (N := N_law) (sc := defScope s_law) (by decide +kernel)) (fun _ _ _ _ _ => (pg_name (i := 15) sc_law.nd rfl (Or.inl rfl) (Or.inr rfl))) (fun _ _ _ _ _ => pts_nil) (fun _ _ _ _ _ => (pe_pr D_law_taken hr (by decide) rfl (pa_cons (pv 1) (pa_cons (pe_callB (r := rLn K) call_len_seq rfl G.f_len boot_len (pa_cons (pv 4) pa_nil)) pa_nil))))) pa_nil)) (pa_cons (pe_tupRg rfl rfl G.f_tuple (prg_1 rfl G.f_range (pv 3))) pa_nil)) (by first | rfl | decide +kernel)) (pss_cons (ps_for PassesOwn.never rfl (pi_tupK (K := K) rfl (pv 11)) (pg_name (i := 13) sc_law.nd rfl (Or.inl rfl) (Or.inr rfl)) (pss_one (ps_set (i := 12) sc_law.nd rfl (Or.inl rfl) (pe_pr D_law_then hr (by decide) rfl (pa_cons (pv 12) (pa_cons (pe_ixT (K := K) rfl (pv 4) (pv 13)) pa_nil)))))) (pss_one (ps_ret (pe_pr D_law_alike hr (by decide) rfl (pa_cons (pe_pr D_made hr (by decide) rfl (pa_cons (pv 2) (pa_cons (pv 11) pa_nil))) (pa_cons (pv 12) pa_nil))))))))))))))))))))))))⟩
end
end NB
set_option maxHeartbeats 4000000
/-! the walks of the defs that hand a lambda to lots_of, printed by gen_term.py -/
namespace NB
open PySem PySem.Spec PyProof.Rows L2
section
variable {P : Program} {w : World} {K : PySem.W.Frag} {mg : Str → Option Value} {base : Heap}
def lamE : Expr → Scope
  | .Call _ [_, .Lambda _ _ sc _] _ _ => sc
  | .Subscript (.Call _ [_, .Lambda _ _ sc _] _ _) _ _ => sc
  | _ => defScope s_parts_of
def lamS (l : List Stmt) : Scope := match l.getLast? with
  | some (.Return (some e) _) => lamE e
  | _ => defScope s_parts_of
abbrev N_lots_of : List Str := ["things", "leads", "left", "found", "lot", "here", "one", "other"]
theorem sc_lots_of : FnScope N_lots_of ["things", "leads"] (defScope s_lots_of) := ⟨rfl, rfl, rfl, by decide +kernel, rfl, by decide +kernel, by decide +kernel⟩
abbrev NL_parts_of : List Str := ["hall", "house", "turn"]
abbrev N_parts_of : List Str := ["house"]
theorem sc_parts_of : FnScope N_parts_of ["house"] (defScope s_parts_of) := ⟨rfl, rfl, rfl, by decide +kernel, rfl, by decide +kernel, by decide +kernel⟩
noncomputable def wt_parts_of {c Pt : Addr} (TB : LamX.TabB base mg c Pt) {g : Addr} {oc : Value} {od : Option Addr} {dV kV doc pm cdv ct : Value} {an : Option Addr} {osl : Array (Option Value)} (L : LotsAt K mg "lots_of" s_lots_of ["things", "leads"] g oc od dV kV doc pm cdv ct an osl) (G : Bl mg) {f : Addr} {A : Around} {outer : List PySem.Env} {s : Shared} {H : Hp} {E : XK} (hr : Room 2 (A.deeper (envOfC "parts_of" (defScope s_parts_of) s.heap.objs.size f (.ref c)))) : { t : TS // PSs (cxOf CX0 P w K mg base N_parts_of "parts_of" (defScope s_parts_of) f (.ref c) A outer s H E).nox (defBody s_parts_of) t } :=
  ⟨_, (pss_one (ps_ret (pe_give (x := "lots_of") (a1 := "things") (ln := "leads") (a := "hall") (q := "parts_of.<locals>.<lambda>") (c := c) (P := Pt) (k := 0) (Ng := N_lots_of) (N1 := NL_parts_of) (y := "house") (js := [0]) (ta := tCons (tVar 6) tNil) (e1 := .Name "one" ⟨97, 31, 97, 34⟩) (p1 := ⟨97, 25, 97, 30⟩) (p2 := ⟨97, 25, 97, 35⟩) rfl L.hm L.hk L.lk L.hcg L.hb sc_lots_of rfl (Or.inl rfl) (pe_listRg rfl rfl G.f_list (prg_1 rfl G.f_range (pe_ixT (K := K) rfl (pv 0) pe_int))) TB rfl rfl rfl (lscope_by (by decide +kernel)) (lam_free (sc := defScope s_parts_of) (scope := lamS (defBody s_parts_of)) (by decide +kernel)) rfl hr (fun _ _ _ _ _ => rfl) (fun f c' A outer s H hr => (pe_lc (own := [("turn", 2)]) rfl (show List.Nodup NL_parts_of by decide) (pi_tupK (K := K) rfl (pe_ixT (K := K) rfl (pv 1) pe_int)) (blkOk_by (N := NL_parts_of) (sc := lamS (defBody s_parts_of)) (by decide +kernel)) (fun _ _ _ _ _ => (pg_name (i := 2) (show List.Nodup NL_parts_of by decide) rfl (Or.inl rfl) (Or.inr rfl))) (fun _ _ _ _ _ => pts_nil) (fun _ _ _ _ _ => (pe_ixT (K := K) rfl (pv 2) (pv 0))))) (fun s H => ⟨pa_cons (pv 6) pa_nil, fun tl hlead hr => (pss_cons (ps_par (i := 2) (j := 3) rfl sc_lots_of.nd rfl rfl (by decide) rfl rfl (pa_cons (pe_callTy (r := rLstOf K) call_list_of rfl G.f_list boot_list (pa_cons (pv 0) pa_nil)) (pa_cons (pe_lst pa_nil) pa_nil)) (by first | rfl | decide +kernel)) (pss_cons (ps_while PassesOwn.never (pt_tru (K := K) rfl (pv 2) (fun _ => rfl)) (pss_cons (ps_asg (pe_tup (pa_cons (PE.or (pe_disp (pps_cons (pe_ixL (K := K) rfl (pv 2) pe_int) pe_bl pps_nil) rfl rfl (by decide) (by decide)) (pe_disXK (P := P) (w := w) rfl rfl (hu1 hr) (pe_ixL (K := K) rfl (pv 2) pe_int))) (pa_cons (pe_lst (pa_cons (pe_ixL (K := K) rfl (pv 2) pe_int) pa_nil)) pa_nil))) (pg_tupK (K := K) (n := 2) rfl rfl (pgs_cons (pg_name (i := 4) sc_lots_of.nd rfl (Or.inr rfl) (Or.inl rfl)) (pgs_cons (pg_name (i := 5) sc_lots_of.nd rfl (Or.inl rfl) (Or.inr rfl)) pgs_nil)))) (pss_cons (ps_while PassesOwn.never (pt_tru (K := K) rfl (pv 5) (fun _ => rfl)) (pss_cons (ps_set (i := 6) sc_lots_of.nd rfl (Or.inl rfl) (pe_bm0K (K := K) rfl PySem.F.plainAttrs_list PySem.F.slot_list_pop PySem.F.type_list_pop mt_pop (pv 5))) (pss_one (ps_for PassesOwn.never rfl (pi_listK (K := K) rfl hlead) (pg_name (i := 7) sc_lots_of.nd rfl (Or.inl rfl) (Or.inr rfl)) (pss_one (ps_if (pt_cmpR (r := fun x y H Q => rNotInK x y H Q ∨ rNotInX P w x y H Q) (OpR.or (op_notInK (hu1 hr)) (op_notInX (hu1 hr))) (pv 7) (pv 4) (by with_unfolding_all rfl)) (pss_cons (ps_asg pe_bl (pg_sub (pv 4) (pv 7) (NB.PSet.or (set_K (hu1 hr)) (set_XK (P := P) (w := w) rfl rfl (hu1 hr))))) (pss_one (ps_expr (pe_bmK (K := K) rfl PySem.F.plainAttrs_list PySem.F.slot_list_append PySem.F.type_list_append mt_append (pv 5) (pa_cons (pv 7) pa_nil))))) pss_nil)))))) (pss_cons (ps_expr (pe_bmK (K := K) rfl PySem.F.plainAttrs_list PySem.F.slot_list_append PySem.F.type_list_append mt_append (pv 3) (pa_cons (pe_callTy (r := rTupOf K) call_tuple_of rfl G.f_tuple boot_tuple (pa_cons (pe_callB (r := fun xs H Q => rSrtI K xs H Q ∨ rSrtT K P w xs H Q) (NB.CallR.or (cr_srtI rfl) (cr_srtT rfl)) rfl G.f_sorted boot_sorted (pa_cons (pv 4) pa_nil)) pa_nil)) pa_nil))) (pss_one (ps_setLc (i := 2) (own := [("one", 6)]) rfl sc_lots_of.nd rfl rfl (sw_true rfl rfl rfl (by decide +kernel)) (pi_listK (K := K) rfl (pv 2)) (blkOk_by (N := N_lots_of) (sc := defScope s_lots_of) (by decide +kernel)) (fun _ _ _ _ _ => (pg_name (i := 6) sc_lots_of.nd rfl (Or.inl rfl) (Or.inr rfl))) (fun _ _ _ _ _ => (pts_one (pt_cmpR (r := fun x y H Q => rNotInK x y H Q ∨ rNotInX P w x y H Q) (OpR.or (op_notInK (hu1 hr)) (op_notInX (hu1 hr))) (pv 6) (pv 4) (by with_unfolding_all rfl)))) (fun _ _ _ _ _ => (pv 6)))))))) (pss_one (ps_ret (pe_callB (r := fun xs H Q => rSrtT K P w xs H Q ∨ rSrtN K xs H Q) (NB.CallR.or (cr_srtT rfl) (cr_srtN (hu64 hr))) rfl G.f_sorted boot_sorted (pa_cons (pv 3) pa_nil))))))⟩))))⟩
abbrev NL_pair_lots_of : List Str := ["pair", "house", "turn"]
abbrev N_pair_lots_of : List Str := ["house", "pairs", "one", "other"]
theorem sc_pair_lots_of : FnScope N_pair_lots_of ["house"] (defScope s_pair_lots_of) := ⟨rfl, rfl, rfl, by decide +kernel, rfl, by decide +kernel, by decide +kernel⟩
noncomputable def wt_pair_lots_of {c Pt : Addr} (TB : LamX.TabB base mg c Pt) {g : Addr} {oc : Value} {od : Option Addr} {dV kV doc pm cdv ct : Value} {an : Option Addr} {osl : Array (Option Value)} (L : LotsAt K mg "lots_of" s_lots_of ["things", "leads"] g oc od dV kV doc pm cdv ct an osl) (G : Bl mg) {f : Addr} {A : Around} {outer : List PySem.Env} {s : Shared} {H : Hp} {E : XK} (hr : Room 2 (A.deeper (envOfC "pair_lots_of" (defScope s_pair_lots_of) s.heap.objs.size f (.ref c)))) : { t : TS // PSs (cxOf CX0 P w K mg base N_pair_lots_of "pair_lots_of" (defScope s_pair_lots_of) f (.ref c) A outer s H E).nox (defBody s_pair_lots_of) t } :=
  ⟨_, (pss_cons (ps_setLc2 (i := 1) (own := [("one", 2), ("other", 3)]) (vs1 := [3]) rfl sc_pair_lots_of.nd rfl rfl (sw_true rfl rfl rfl (by decide +kernel)) (pi_range1 rfl G.f_range (pa_cons (pe_ixT (K := K) rfl (pv 0) pe_int) pa_nil)) (blkOk_by (N := N_pair_lots_of) (sc := defScope s_pair_lots_of) (by decide +kernel)) (by decide) (fun _ _ _ _ _ => (pg_name (i := 2) sc_pair_lots_of.nd rfl (Or.inl rfl) (Or.inr rfl))) (fun _ _ _ _ _ => pts_nil) (fun _ _ _ _ _ => (pi_range1 rfl G.f_range (pa_cons (pe_ixT (K := K) rfl (pv 0) pe_int) pa_nil))) (fun _ _ _ _ _ => (pg_name (i := 3) sc_pair_lots_of.nd rfl (Or.inl rfl) (Or.inr rfl))) (fun _ _ _ _ _ => pts_nil) (fun _ _ _ _ _ => (pe_tup (pa_cons (pv 2) (pa_cons (pv 3) pa_nil))))) (pss_one (ps_ret (pe_give (x := "lots_of") (a1 := "things") (ln := "leads") (a := "pair") (q := "pair_lots_of.<locals>.<lambda>") (c := c) (P := Pt) (k := 0) (Ng := N_lots_of) (N1 := NL_pair_lots_of) (y := "house") (js := [0]) (ta := tCons (tVar 6) tNil) (e1 := .Name "one" ⟨97, 31, 97, 34⟩) (p1 := ⟨97, 25, 97, 30⟩) (p2 := ⟨97, 25, 97, 35⟩) rfl L.hm L.hk L.lk L.hcg L.hb sc_lots_of rfl (Or.inl rfl) (pv 1) TB rfl rfl rfl (lscope_by (by decide +kernel)) (lam_free (sc := defScope s_pair_lots_of) (scope := lamS (defBody s_pair_lots_of)) (by decide +kernel)) rfl hr (fun _ _ _ _ _ => rfl) (fun f c' A outer s H hr => (pe_lc (own := [("turn", 2)]) rfl (show List.Nodup NL_pair_lots_of by decide) (pi_tupK (K := K) rfl (pe_ixT (K := K) rfl (pv 1) pe_int)) (blkOk_by (N := NL_pair_lots_of) (sc := lamS (defBody s_pair_lots_of)) (by decide +kernel)) (fun _ _ _ _ _ => (pg_name (i := 2) (show List.Nodup NL_pair_lots_of by decide) rfl (Or.inl rfl) (Or.inr rfl))) (fun _ _ _ _ _ => pts_nil) (fun _ _ _ _ _ => (pe_tup (pa_cons (pe_ixT (K := K) rfl (pv 2) (pe_ixT (K := K) rfl (pv 0) pe_int)) (pa_cons (pe_ixT (K := K) rfl (pv 2) (pe_ixT (K := K) rfl (pv 0) pe_int)) pa_nil)))))) (fun s H => ⟨pa_cons (pv 6) pa_nil, fun tl hlead hr => (pss_cons (ps_par (i := 2) (j := 3) rfl sc_lots_of.nd rfl rfl (by decide) rfl rfl (pa_cons (pe_callTy (r := rLstOf K) call_list_of rfl G.f_list boot_list (pa_cons (pv 0) pa_nil)) (pa_cons (pe_lst pa_nil) pa_nil)) (by first | rfl | decide +kernel)) (pss_cons (ps_while PassesOwn.never (pt_tru (K := K) rfl (pv 2) (fun _ => rfl)) (pss_cons (ps_asg (pe_tup (pa_cons (PE.or (pe_disp (pps_cons (pe_ixL (K := K) rfl (pv 2) pe_int) pe_bl pps_nil) rfl rfl (by decide) (by decide)) (pe_disXK (P := P) (w := w) rfl rfl (hu1 hr) (pe_ixL (K := K) rfl (pv 2) pe_int))) (pa_cons (pe_lst (pa_cons (pe_ixL (K := K) rfl (pv 2) pe_int) pa_nil)) pa_nil))) (pg_tupK (K := K) (n := 2) rfl rfl (pgs_cons (pg_name (i := 4) sc_lots_of.nd rfl (Or.inr rfl) (Or.inl rfl)) (pgs_cons (pg_name (i := 5) sc_lots_of.nd rfl (Or.inl rfl) (Or.inr rfl)) pgs_nil)))) (pss_cons (ps_while PassesOwn.never (pt_tru (K := K) rfl (pv 5) (fun _ => rfl)) (pss_cons (ps_set (i := 6) sc_lots_of.nd rfl (Or.inl rfl) (pe_bm0K (K := K) rfl PySem.F.plainAttrs_list PySem.F.slot_list_pop PySem.F.type_list_pop mt_pop (pv 5))) (pss_one (ps_for PassesOwn.never rfl (pi_listK (K := K) rfl hlead) (pg_name (i := 7) sc_lots_of.nd rfl (Or.inl rfl) (Or.inr rfl)) (pss_one (ps_if (pt_cmpR (r := fun x y H Q => rNotInK x y H Q ∨ rNotInX P w x y H Q) (OpR.or (op_notInK (hu1 hr)) (op_notInX (hu1 hr))) (pv 7) (pv 4) (by with_unfolding_all rfl)) (pss_cons (ps_asg pe_bl (pg_sub (pv 4) (pv 7) (NB.PSet.or (set_K (hu1 hr)) (set_XK (P := P) (w := w) rfl rfl (hu1 hr))))) (pss_one (ps_expr (pe_bmK (K := K) rfl PySem.F.plainAttrs_list PySem.F.slot_list_append PySem.F.type_list_append mt_append (pv 5) (pa_cons (pv 7) pa_nil))))) pss_nil)))))) (pss_cons (ps_expr (pe_bmK (K := K) rfl PySem.F.plainAttrs_list PySem.F.slot_list_append PySem.F.type_list_append mt_append (pv 3) (pa_cons (pe_callTy (r := rTupOf K) call_tuple_of rfl G.f_tuple boot_tuple (pa_cons (pe_callB (r := fun xs H Q => rSrtI K xs H Q ∨ rSrtT K P w xs H Q) (NB.CallR.or (cr_srtI rfl) (cr_srtT rfl)) rfl G.f_sorted boot_sorted (pa_cons (pv 4) pa_nil)) pa_nil)) pa_nil))) (pss_one (ps_setLc (i := 2) (own := [("one", 6)]) rfl sc_lots_of.nd rfl rfl (sw_true rfl rfl rfl (by decide +kernel)) (pi_listK (K := K) rfl (pv 2)) (blkOk_by (N := N_lots_of) (sc := defScope s_lots_of) (by decide +kernel)) (fun _ _ _ _ _ => (pg_name (i := 6) sc_lots_of.nd rfl (Or.inl rfl) (Or.inr rfl))) (fun _ _ _ _ _ => (pts_one (pt_cmpR (r := fun x y H Q => rNotInK x y H Q ∨ rNotInX P w x y H Q) (OpR.or (op_notInK (hu1 hr)) (op_notInX (hu1 hr))) (pv 6) (pv 4) (by with_unfolding_all rfl)))) (fun _ _ _ _ _ => (pv 6)))))))) (pss_one (ps_ret (pe_callB (r := fun xs H Q => rSrtT K P w xs H Q ∨ rSrtN K xs H Q) (NB.CallR.or (cr_srtT rfl) (cr_srtN (hu64 hr))) rfl G.f_sorted boot_sorted (pa_cons (pv 3) pa_nil))))))⟩)))))⟩
abbrev NL_likes_of : List Str := ["one", "house", "way"]
abbrev N_likes_of : List Str := ["house", "turn"]
theorem sc_likes_of : FnScope N_likes_of ["house", "turn"] (defScope s_likes_of) := ⟨rfl, rfl, rfl, by decide +kernel, rfl, by decide +kernel, by decide +kernel⟩
noncomputable def wt_likes_of {c Pt : Addr} (TB : LamX.TabB base mg c Pt) {g : Addr} {oc : Value} {od : Option Addr} {dV kV doc pm cdv ct : Value} {an : Option Addr} {osl : Array (Option Value)} (L : LotsAt K mg "lots_of" s_lots_of ["things", "leads"] g oc od dV kV doc pm cdv ct an osl) (G : Bl mg) {sp_then : Sp} (D_then : Pr P w K mg base 1 "then" ["one", "other"] sp_then) {sp_back : Sp} (D_back : Pr P w K mg base 1 "back" ["one"] sp_back) {f : Addr} {A : Around} {outer : List PySem.Env} {s : Shared} {H : Hp} {E : XK} (hr : Room 3 (A.deeper (envOfC "likes_of" (defScope s_likes_of) s.heap.objs.size f (.ref c)))) : { t : TS // PSs (cxOf CX0 P w K mg base N_likes_of "likes_of" (defScope s_likes_of) f (.ref c) A outer s H E).nox (defBody s_likes_of) t } :=
  ⟨_, (pss_one (ps_ret (pe_ixL (K := K) rfl (pe_give (x := "lots_of") (a1 := "things") (ln := "leads") (a := "one") (q := "likes_of.<locals>.<lambda>") (c := c) (P := Pt) (k := 1) (Ng := N_lots_of) (N1 := NL_likes_of) (y := "house") (js := [0]) (ta := tCons (tVar 6) tNil) (e1 := .Name "one" ⟨97, 31, 97, 34⟩) (p1 := ⟨97, 25, 97, 30⟩) (p2 := ⟨97, 25, 97, 35⟩) rfl L.hm L.hk L.lk L.hcg L.hb sc_lots_of rfl (Or.inl rfl) (pe_lst (pa_cons (pv 1) pa_nil)) TB rfl rfl rfl (lscope_by (by decide +kernel)) (lam_free (sc := defScope s_likes_of) (scope := lamS (defBody s_likes_of)) (by decide +kernel)) rfl hr (fun _ _ _ _ _ => rfl) (fun f c' A outer s H hr => (pe_lc (own := [("way", 2)]) rfl (show List.Nodup NL_likes_of by decide) (pi_tupK (K := K) rfl (pe_ixT (K := K) rfl (pv 1) pe_int)) (blkOk_by (N := NL_likes_of) (sc := lamS (defBody s_likes_of)) (by decide +kernel)) (fun _ _ _ _ _ => (pg_name (i := 2) (show List.Nodup NL_likes_of by decide) rfl (Or.inl rfl) (Or.inr rfl))) (fun _ _ _ _ _ => pts_nil) (fun _ _ _ _ _ => (pe_pr D_then hr (by decide) rfl (pa_cons (pe_pr D_then hr (by decide) rfl (pa_cons (pe_pr D_back hr (by decide) rfl (pa_cons (pv 2) pa_nil)) (pa_cons (pv 0) pa_nil))) (pa_cons (pv 2) pa_nil)))))) (fun s H => ⟨pa_cons (pv 6) pa_nil, fun tl hlead hr => (pss_cons (ps_par (i := 2) (j := 3) rfl sc_lots_of.nd rfl rfl (by decide) rfl rfl (pa_cons (pe_callTy (r := rLstOf K) call_list_of rfl G.f_list boot_list (pa_cons (pv 0) pa_nil)) (pa_cons (pe_lst pa_nil) pa_nil)) (by first | rfl | decide +kernel)) (pss_cons (ps_while PassesOwn.never (pt_tru (K := K) rfl (pv 2) (fun _ => rfl)) (pss_cons (ps_asg (pe_tup (pa_cons (PE.or (pe_disp (pps_cons (pe_ixL (K := K) rfl (pv 2) pe_int) pe_bl pps_nil) rfl rfl (by decide) (by decide)) (pe_disXK (P := P) (w := w) rfl rfl (hu1 hr) (pe_ixL (K := K) rfl (pv 2) pe_int))) (pa_cons (pe_lst (pa_cons (pe_ixL (K := K) rfl (pv 2) pe_int) pa_nil)) pa_nil))) (pg_tupK (K := K) (n := 2) rfl rfl (pgs_cons (pg_name (i := 4) sc_lots_of.nd rfl (Or.inr rfl) (Or.inl rfl)) (pgs_cons (pg_name (i := 5) sc_lots_of.nd rfl (Or.inl rfl) (Or.inr rfl)) pgs_nil)))) (pss_cons (ps_while PassesOwn.never (pt_tru (K := K) rfl (pv 5) (fun _ => rfl)) (pss_cons (ps_set (i := 6) sc_lots_of.nd rfl (Or.inl rfl) (pe_bm0K (K := K) rfl PySem.F.plainAttrs_list PySem.F.slot_list_pop PySem.F.type_list_pop mt_pop (pv 5))) (pss_one (ps_for PassesOwn.never rfl (pi_listK (K := K) rfl hlead) (pg_name (i := 7) sc_lots_of.nd rfl (Or.inl rfl) (Or.inr rfl)) (pss_one (ps_if (pt_cmpR (r := fun x y H Q => rNotInK x y H Q ∨ rNotInX P w x y H Q) (OpR.or (op_notInK (hu1 hr)) (op_notInX (hu1 hr))) (pv 7) (pv 4) (by with_unfolding_all rfl)) (pss_cons (ps_asg pe_bl (pg_sub (pv 4) (pv 7) (NB.PSet.or (set_K (hu1 hr)) (set_XK (P := P) (w := w) rfl rfl (hu1 hr))))) (pss_one (ps_expr (pe_bmK (K := K) rfl PySem.F.plainAttrs_list PySem.F.slot_list_append PySem.F.type_list_append mt_append (pv 5) (pa_cons (pv 7) pa_nil))))) pss_nil)))))) (pss_cons (ps_expr (pe_bmK (K := K) rfl PySem.F.plainAttrs_list PySem.F.slot_list_append PySem.F.type_list_append mt_append (pv 3) (pa_cons (pe_callTy (r := rTupOf K) call_tuple_of rfl G.f_tuple boot_tuple (pa_cons (pe_callB (r := fun xs H Q => rSrtI K xs H Q ∨ rSrtT K P w xs H Q) (NB.CallR.or (cr_srtI rfl) (cr_srtT rfl)) rfl G.f_sorted boot_sorted (pa_cons (pv 4) pa_nil)) pa_nil)) pa_nil))) (pss_one (ps_setLc (i := 2) (own := [("one", 6)]) rfl sc_lots_of.nd rfl rfl (sw_true rfl rfl rfl (by decide +kernel)) (pi_listK (K := K) rfl (pv 2)) (blkOk_by (N := N_lots_of) (sc := defScope s_lots_of) (by decide +kernel)) (fun _ _ _ _ _ => (pg_name (i := 6) sc_lots_of.nd rfl (Or.inl rfl) (Or.inr rfl))) (fun _ _ _ _ _ => (pts_one (pt_cmpR (r := fun x y H Q => rNotInK x y H Q ∨ rNotInX P w x y H Q) (OpR.or (op_notInK (hu1 hr)) (op_notInX (hu1 hr))) (pv 6) (pv 4) (by with_unfolding_all rfl)))) (fun _ _ _ _ _ => (pv 6)))))))) (pss_one (ps_ret (pe_callB (r := fun xs H Q => rSrtT K P w xs H Q ∨ rSrtN K xs H Q) (NB.CallR.or (cr_srtT rfl) (cr_srtN (hu64 hr))) rfl G.f_sorted boot_sorted (pa_cons (pv 3) pa_nil))))))⟩)) pe_int)))⟩
end
end NB
set_option maxHeartbeats 1000000
/-! what the readings give, on data -/
namespace NB
open PySem PySem.Spec PyProof.Rows L2
section
variable {K : PySem.W.Frag} {B : Tbs} {Γ : Ga} {H H' : Hp} {ta tb tc te ti : TE} {tt tu : TT} {s s1 s2 s3 : Sl} {r r' : R2} {ds es : List PyData} {d e : PyData} {D : Ends} {σ : St} {tz : TS}
/-! ### isinstance -/
def tyD : PyData → String
  | .none => "NoneType"
  | .bool _ => "bool"
  | .int _ => "int"
  | .tuple _ => "tuple"
  | .list _ => "list"
  | _ => "str"
theorem is_ty {v : V} (h : Is H v d) : TyX K H v (.type (tyD d)) := by
  cases h with
  | non => exact .base .non
  | bl b => exact .base (.bl b)
  | int i => exact .base (.int i)
  | tup h _ =>
    rcases h with h | ⟨o, h⟩
    · exact .base (.tup h)
    · exact .fTuple h
  | lst h _ _ => exact .base (.lst h)
theorem ev_isi {n : String} {b : Bool} (h : Ev K B te Γ H (.d d)) (hk : PySem.W.kitOne K (.type (tyD d)) (.type n) = some b) : Ev K B (tCB (rIsi K) (tCons te (tCons (tC (.ty n)) tNil))) Γ H (.d (.bool b)) := fun σ H1 E e Q q =>
  h σ H1 E e _ fun v H2 e2 v2 => ⟨v, .ty n, _, _, b, rfl, .ty n, is_ty v2, hk, q _ H2 e2 (.bl b)⟩
theorem ev_isiT {n m : String} {b : Bool} (h : Ev K B te Γ H (.d d)) (hk : PySem.W.kitAny K (.type (tyD d)) [.type n, .type m] = some b) : Ev K B (tCB (rIsiT K) (tCons te (tCons (tTup (tCons (tC (.ty n)) (tCons (tC (.ty m)) tNil))) tNil))) Γ H (.d (.bool b)) := fun σ H1 E e Q q =>
  h σ H1 E e _ fun v H2 e2 v2 => by
    refine ⟨lenline (by simp), fun p hp => ?_⟩
    have e3 : Ex K B H2 (upd H2 p (.tup [.ty n, .ty m])) := Ex.new hp
    exact ⟨v, p, _, _, _, b, rfl, upd_same, .cons (.ty n) (.cons (.ty m) .nil), is_ty (Is.mono (K := K) (B := B) e3 v2), hk, q _ _ (e2.trans e3) (.bl b)⟩
/-! ### a op b op c -/
theorem ev_chain {x y : Bool} (ha : Ev K B ta Γ H s1) (hb : Ev K B tb Γ H s2) (hc : Ev K B tc Γ H s3) (h1 : Op2 K B r s1 s2 H (.d (.bool x))) (h2 : Op2 K B r' s2 s3 H (.d (.bool y))) : Ev K B (tChain r r' ta tb tc) Γ H (.d (.bool (x && y))) := fun σ H1 E e Q q =>
  ha σ H1 E e _ fun u H2 e2 u2 => hb σ H2 (E.mono e2) (e.trans e2) _ fun v H3 e3 v3 => h1 u v H3 ((E.mono e2).mono e3).tb ((e.trans e2).trans e3) (u2.mono e3) v3 _ fun z H4 e4 z4 => by
    cases (show Is H4 z (.bool x) from z4)
    refine ⟨x, rfl, ?_⟩
    cases x with
    | true =>
      refine hc σ H4 (((E.mono e2).mono e3).mono e4) (((e.trans e2).trans e3).trans e4) _ fun w H5 e5 w5 => h2 v w H5 ((((E.mono e2).mono e3).mono e4).mono e5).tb ((((e.trans e2).trans e3).trans e4).trans e5) ((v3.mono e4).mono e5) w5 Q fun v' H6 e6 v6 => ?_
      exact q v' H6 ((((e2.trans e3).trans e4).trans e5).trans e6) v6
    | false => exact q _ H4 ((e2.trans e3).trans e4) (.bl false)
/-! ### all(test for x in tuple) -/
def TabOf (B : Tbs) (P : Addr) : Prop := P = B.it ∨ P = B.wp
theorem TabOf.g {P : Addr} (h : TabOf B P) (t : TbOk B H) : GxR.TabG H P := h.elim (fun e => e ▸ t.it) fun e => e ▸ t.wp
theorem ex_tabbed {P : Addr} (ne : TbNe B) (h : TabOf B P) (g : GxR.TabG H P) (t : GxR.Tabbed P H H') : Ex K B H H' := by
  obtain ⟨t1, t2⟩ := t
  obtain ⟨ps, hP, _⟩ := g
  have old : ∀ b o, H b = some o → (∀ qs, o ≠ .tbl qs) → H' b = some o := fun b o e n => by
    have ne : b ≠ P := fun z => by
      rw [z, hP] at e
      exact n ps (Option.some.inj e).symm
    rw [t2 b ne]
    exact e
  have cod : ∀ Q q, Q ≠ P → LamX.TabS H Q q → LamX.TabS H' Q q := fun Q q hq ⟨qs, h1, h2, h3⟩ => ⟨qs, by rw [t2 Q hq]; exact h1, h2, fun pos cv hc => by
    obtain ⟨c, e1, e2⟩ := h3 pos cv hc
    exact ⟨c, e1, old _ _ e2 fun qs => codeO_ne qs⟩⟩
  have gen : ∀ Q, GxR.TabG H Q → GxR.TabG H' Q := fun Q hq => by
    by_cases e : Q = P
    · rw [e]; exact t1
    · obtain ⟨qs, h1, h2⟩ := hq
      exact ⟨qs, by rw [t2 Q e]; exact h1, h2⟩
  refine ⟨fun b o e f => old b o e f.1, fun k => ⟨gen _ k.it, gen _ k.wp, cod _ _ ?_ k.po, cod _ _ ?_ k.pl, cod _ _ ?_ k.lk⟩, fun a s ns k => ?_, fun b e => ?_⟩
  · exact h.elim (fun e => e ▸ ne.it.2.1.symm) fun e => e ▸ ne.wp.1.symm
  · exact h.elim (fun e => e ▸ ne.it.2.2.1.symm) fun e => e ▸ ne.wp.2.1.symm
  · exact h.elim (fun e => e ▸ ne.it.2.2.2.symm) fun e => e ▸ ne.wp.2.2.symm
  · obtain ⟨⟨i, z, r, k1, hi⟩, k2⟩ := k
    exact ⟨⟨i, z, r, old _ _ k1 (fun _ z => nomatch z), hi⟩, seq_keep k2 (norow_ints ns) fun b o e f => old b o e f.1⟩
  · by_cases hb : b = P
    · rw [hb] at e
      obtain ⟨qs, h1, _⟩ := t1
      rw [h1] at e
      cases e
    · rw [t2 b hb] at e
      exact e
theorem env2 {x : V} {yv : Option V} {d : PyData} {s : Sl} (t : TbOk B H) (hx : Is H x d) (hy : ∃ v, yv = some v ∧ SlOk H s v) : Env B [some x, yv] H [some (.d d), some s] := ⟨t, rfl, fun i g hg => by
  match i, hg with
  | 0, hg => cases hg; exact ⟨x, rfl, hx⟩
  | 1, hg =>
    cases hg
    obtain ⟨v, h1, h2⟩ := hy
    exact ⟨v, by rw [h1]; rfl, h2⟩⟩
theorem ev_allG {P : Addr} {j : Nat} (ne : TbNe B) (hP : TabOf B P) (hi : Ev K B ti Γ H (.d (.tuple ds))) (hj : Γ[j]? = some (some s)) (hb : ∀ d ∈ ds, Ev K B tb [some (.d d), some s] H (.d (.bool true))) : Ev K B (tAllG P j ti tb) Γ H (.d (.bool true)) := fun σ H1 E e Q q =>
  hi σ H1 E e _ fun v H2 e2 v2 => by
    cases (show Is H2 v (.tuple ds) from v2) with
    | @tup a vs _ h1 h2 =>
      have g := hP.g (E.mono e2).tb
      refine ⟨a, vs, rfl, h1, g, fun _ H' => Ex K B H2 H', fun H3 t => ex_tabbed ne hP g t, fun i x H3 hx w => ?_, fun H3 w => q _ H3 (e2.trans w) (.bl true)⟩
      obtain ⟨d, hd, iv⟩ := h2.at' hx
      obtain ⟨v, k1, k2⟩ := E.at_ j s hj
      refine hb d (List.mem_of_getElem? hd) _ H3 (env2 ((E.mono e2).mono w).tb (iv.mono w) ⟨v, NdefX.slotAt_of k1, (k2.mono e2).mono w⟩) ((e.trans e2).trans w) _ fun r H4 e4 r4 => ?_
      cases (show Is H4 r (.bool true) from r4)
      exact ⟨rfl, w.trans e4⟩
/-! ### equality of data -/
theorem o_eqD (hd : SeqAt.shaped d = true) (he : SeqAt.shaped e = true) : Op2 K B (rEqD K) (.d d) (.d e) H (.d (.bool (PyData.eqv d e))) := fun x y H1 _ _ hx hy Q q =>
  ⟨d, e, is_dp _ _ hx, is_dp _ _ hy, hd, he, q _ H1 (Ex.refl K H1) (.bl _)⟩
theorem o_neD (hd : SeqAt.shaped d = true) (he : SeqAt.shaped e = true) : Op2 K B (rNeD K) (.d d) (.d e) H (.d (.bool (!PyData.eqv d e))) := fun x y H1 _ _ hx hy Q q =>
  ⟨d, e, is_dp _ _ hx, is_dp _ _ hy, hd, he, q _ H1 (Ex.refl K H1) (.bl _)⟩
theorem o_inD (hd : SeqAt.shaped d = true) (he : SeqAt.shaped (.list ds) = true) : Op2 K B (rInD K) (.d d) (.d (.list ds)) H (.d (.bool (ds.any fun z => PyData.eqv z d))) := fun x y H1 _ _ hx hy Q q =>
  ⟨d, ds, is_dp _ _ hx, is_dp _ _ hy, hd, he, q _ H1 (Ex.refl K H1) (.bl _)⟩
theorem o_notInD (hd : SeqAt.shaped d = true) (he : SeqAt.shaped (.list ds) = true) : Op2 K B (rNotInD K) (.d d) (.d (.list ds)) H (.d (.bool (!ds.any fun z => PyData.eqv z d))) := fun x y H1 _ _ hx hy Q q =>
  ⟨d, ds, is_dp _ _ hx, is_dp _ _ hy, hd, he, q _ H1 (Ex.refl K H1) (.bl _)⟩
/-! ### ranges -/
theorem rgV_nat (n : Nat) : rgV 0 (n : Int) = (List.range n).map nV := by
  unfold rgV
  have e : ((n : Int) - 0).toNat = n := by omega
  rw [e]
  refine List.map_congr_left fun i _ => ?_
  show V.int (0 + (i : Int)) = V.int i
  rw [Int.zero_add]
theorem rgOk_nat {n : Nat} (h : n ≤ 1000) : RgOk 0 (n : Int) := RgOk.of_le (by omega) (by omega) (by omega) (by omega)
theorem ev_tupRg {n : Nat} (h : Ev K B te Γ H (.d (nD n))) (hn : n ≤ 1000) : Ev K B (tTupRg (tRg1 te)) Γ H (.d (tD (List.range n))) := fun σ H1 E e Q q =>
  h σ H1 E e _ fun v H2 e2 v2 => by
    cases (show Is H2 v (.int (n : Int)) from v2)
    refine ⟨(n : Int), rfl, rgOk_nat hn, fun p hp => ?_⟩
    rw [rgV_nat]
    exact q _ _ (e2.trans (Ex.new hp)) (tD_is (.inl upd_same))
theorem ev_tupRF {n : Nat} (h : Ev K B te Γ H (.d (nD n))) (hn : n ≤ 1000) : Ev K B (tTupRF (tRg1 te)) Γ H (.d (tD (List.range n))) := fun σ H1 E e Q q =>
  h σ H1 E e _ fun v H2 e2 v2 => by
    cases (show Is H2 v (.int (n : Int)) from v2)
    refine ⟨(n : Int), rfl, rgOk_nat hn, fun p ob hp _ => ?_⟩
    rw [rgV_nat]
    exact q _ _ (e2.trans (Ex.new hp)) (tD_is (.inr ⟨ob, upd_same⟩))
theorem en_lstRg {n : Nat} (h : Ev K B te Γ H (.d (nD n))) (hn : n ≤ 1000) : EvN K B (tLstRg (tRg1 te)) Γ H ((List.range n).map nD) := fun σ H1 E e Q q =>
  h σ H1 E e _ fun v H2 e2 v2 => by
    cases (show Is H2 v (.int (n : Int)) from v2)
    refine ⟨(n : Int), rfl, rgOk_nat hn, fun p hp => ?_⟩
    rw [rgV_nat]
    exact q p _ _ (e2.sm p hp) (e2.trans (Ex.new hp)) upd_same (isAll_nat _)
/-! ### [x] * n -/
theorem en_rep {n : Nat} (ha : EvN K B ta Γ H [d]) (hb : ∀ H1, Ex K B H H1 → Ev K B tb Γ H1 (.d (nD n))) (hn : n ≤ 1000) : EvN K B (tOp rRep ta tb) Γ H (List.replicate n d) := fun σ H1 E e Q q =>
  ha σ H1 E e _ fun p vs H2 hp e2 h2 i2 => hb H2 (e.trans e2) σ H2 (E.mono e2) (Ex.refl K H2) _ fun y H3 e3 y3 => by
    cases (show Is H3 y (.int (n : Int)) from y3)
    cases i2 with
    | @cons v vs _ _ h3 h4 =>
      cases h4
      have hl : H3 p = some (.lst [v]) := e3.lst h2 (norow_len (by simp))
      refine ⟨p, (n : Int), [v], rfl, rfl, hl, by omega, by omega, lenline (by simp; omega), fun p' hp' => ?_⟩
      refine q p' (List.replicate n v) _ ((e2.trans e3).sm _ hp') ((e2.trans e3).trans (Ex.new hp')) ?_ ?_
      · rw [upd_same]
        have e4 : (List.replicate (n : Int).toNat [v]).flatten = List.replicate n v := by
          rw [Int.toNat_natCast]
          clear hl hn h3 hb q y3
          induction n with
          | zero => rfl
          | succ n ih => rw [List.replicate_succ, List.flatten_cons, ih, List.replicate_succ]; rfl
        rw [e4]
      · have iv := Is.mono (K := K) (B := B) (Ex.new hp' (o := .lst (List.replicate (n : Int).toNat [v]).flatten)) (Is.mono e3 h3)
        have rep : ∀ {H : Hp} {v : V}, Is H v d → ∀ n : Nat, IsAll H (List.replicate n v) (List.replicate n d) := by
          intro H v hv n
          induction n with
          | zero => exact .nil
          | succ n ih => exact .cons hv ih
        exact rep iv n
/-! ### lists -/
def Lo (H : Hp) (p : Addr) (ds : List PyData) : Prop := ∃ us, H p = some (.lst us) ∧ IsAll H us ds
theorem Lo.is {p : Addr} (h : Lo H p ds) (nr : rowD ds = false) : Is H (.ref p) (.list ds) := by
  obtain ⟨us, h1, h2⟩ := h
  exact .lst h1 (norow_of h2 nr) h2
theorem Lo.plain {p : Addr} (h : Lo H p ds) : Plain (H p) := by
  obtain ⟨us, h1, _⟩ := h
  rw [h1]
  trivial
theorem Lo.mono {p : Addr} (h : Lo H p ds) (nr : rowD ds = false) (e : Ex K B H H') : Lo H' p ds := by
  obtain ⟨us, h1, h2⟩ := h
  exact ⟨us, e.lst h1 (norow_of h2 nr), h2.mono e⟩
theorem ev_varL {i : Nat} {p : Addr} (hi : Γ[i]? = some (some (.r p))) (h : Lo H p ds) (nr : rowD ds = false) : Ev K B (tVar i) Γ H (.d (.list ds)) := fun σ H1 E e Q q => by
  obtain ⟨v, h1, h2⟩ := E.at_ i _ hi
  have hv : v = .ref p := h2
  exact ⟨v, h1, q v H1 (Ex.refl K H1) (by rw [hv]; exact Is.mono e (h.is nr))⟩
theorem o_ixD {j : Nat} (h : ds[j]? = some d) : Op2 K B (rIxL K) (.d (.list ds)) (.d (.int (j : Int))) H (.d d) := fun x y H1 _ _ hx hy Q q => by
  cases (show Is H1 y (.int (j : Int)) from hy)
  cases (show Is H1 x (.list ds) from hx) with
  | lst h1 nr h2 =>
    obtain ⟨v, hv, iv⟩ := h2.at h
    exact ⟨_, _, _, v, rfl, rfl, .inl (.inl h1), atI_nat hv, q v H1 (Ex.refl K H1) iv⟩
theorem o_ixET {j : Nat} (h : ds[j]? = some d) : Op2 K B (rIxE K) (.d (.tuple ds)) (.d (.int (j : Int))) H (.d d) := fun x y H1 t e hx hy Q q => .inl (o_ixT h x y H1 t e hx hy Q q)
theorem o_ixEL {j : Nat} (h : ds[j]? = some d) : Op2 K B (rIxE K) (.d (.list ds)) (.d (.int (j : Int))) H (.d d) := fun x y H1 t e hx hy Q q => .inr (o_ixD h x y H1 t e hx hy Q q)
theorem et_tru (h : Ev K B te Γ H (.d (.list ds))) : EvT K B (tTru K te) Γ H (!ds.isEmpty) := fun σ H1 E e Q q =>
  h σ H1 E e _ fun v H2 e2 v2 => by
    cases (show Is H2 v (.list ds) from v2) with
    | @lst a vs _ h1 nr h2 =>
      refine ⟨!ds.isEmpty, .inl ⟨vs, .inl (.inl h1), ?_⟩, q H2 e2⟩
      cases h2 <;> rfl
theorem en_cbL {rl : List V → Hp → VK → Prop} (h : OpLN K B rl [.d (.list ds)] H es) (ha : Ev K B te Γ H (.d (.list ds))) : EvN K B (tCB rl (tCons te tNil)) Γ H es := en_cb (ea1 ha) h
theorem ev_len (h : Ev K B te Γ H (.d (.list ds))) : Ev K B (tCB (rLn K) (tCons te tNil)) Γ H (.d (nD ds.length)) := ev_cb (ea1 h) o_lenD
theorem ev_lenT (h : Ev K B te Γ H (.d (.tuple ds))) : Ev K B (tCB (rLn K) (tCons te tNil)) Γ H (.d (nD ds.length)) := ev_cb (ea1 h) o_lenT
/-! ### a local object changes -/
def Mt (K : PySem.W.Frag) (B : Tbs) (H : Hp) (p : Addr) (H' : Hp) : Prop := ∃ H1 o, Ex K B H H1 ∧ Plain (H1 p) ∧ H' = upd H1 p o
theorem Mt.ex {p : Addr} {H0 : Hp} (m : Mt K B H p H') (e : Ex K B H0 H) (h0 : H0 p = none) : Ex K B H0 H' := by
  obtain ⟨H1, o, e1, pl, rfl⟩ := m
  exact (e.trans e1).mut h0 pl
theorem Mt.tk {p : Addr} (m : Mt K B H p H') : Tk H H' := by
  obtain ⟨H1, o, e1, pl, rfl⟩ := m
  exact e1.tk.trans (tk_upd pl)
theorem Mt.env {p : Addr} (m : Mt K B H p H') (E : Env B σ H Γ) (hl : Γ.all lfO = true) : Env B σ H' Γ := by
  obtain ⟨H1, o, e1, pl, rfl⟩ := m
  exact (E.mono e1).upd pl hl
theorem Mt.at {p q : Addr} {o : HO} (m : Mt K B H p H') (h : H q = some o) (f : Fix o) (ne : q ≠ p) : H' q = some o := by
  obtain ⟨H1, o1, e1, pl, rfl⟩ := m
  rw [upd_ne ne]
  exact e1.fx q o h f
theorem Mt.lo {p q : Addr} (m : Mt K B H p H') (h : Lo H q ds) (nr : rowD ds = false) (l : lfAll ds = true) (ne : q ≠ p) : Lo H' q ds := by
  have t := m.tk
  obtain ⟨us, h1, h2⟩ := h
  exact ⟨us, m.at h1 (fix_lst (norow_of h2 nr)) ne, t.isAll l h2⟩
theorem Mt.tbo {p : Addr} (m : Mt K B H p H') (t : TbOk B H) : TbOk B H' := by
  obtain ⟨H1, o, e1, pl, rfl⟩ := m
  exact (e1.tb t).upd pl
theorem Mt.none {p q : Addr} (m : Mt K B H p H') (h : H' q = Option.none) : H q = Option.none := by
  obtain ⟨H1, o, e1, pl, rfl⟩ := m
  by_cases z : q = p
  · rw [z, upd_same] at h; cases h
  · rw [upd_ne z] at h
    exact e1.sm q h
theorem Env.slot {i : Nat} {p : Addr} (E : Env B σ H Γ) (hi : Γ[i]? = some (some (.r p))) : σ[i]? = some (some (.ref p)) := by
  obtain ⟨v, h1, h2⟩ := E.at_ i _ hi
  rw [h1, (show v = .ref p from h2)]
theorem upd_lo {p : Addr} {us : List V} (h : IsAll H us ds) (l : lfAll ds = true) (np : ∀ xs, ¬ Rd H p (.tup xs)) : Lo (upd H p (.lst us)) p ds := ⟨us, upd_same, h.upd l np⟩
theorem s_append {i : Nat} {p : Addr} (E : Env B σ H Γ) (hi : Γ[i]? = some (some (.r p))) (L : Lo H p ds) (nr : rowD ds = false) (l : lfAll ds = true) (hz : ds.length < 999) (h : Ev K B te Γ H (.d d)) (ld : lf d = true)
    (k : ∀ H', Mt K B H p H' → Lo H' p (ds ++ [d]) → D.nx σ H') : tDrop (tBM K "list" rAppend (tVar i) (tCons te tNil)) D σ H := by
  refine ⟨_, E.slot hi, .inl ⟨rfl, ?_⟩, ?_⟩
  · obtain ⟨us, h1, _⟩ := L
    exact ⟨us, .inl (.inl h1)⟩
  · refine h σ H E (Ex.refl K H) _ fun v H1 e1 v1 => ?_
    obtain ⟨us, h1, h2⟩ := L.mono nr e1
    have np : ∀ xs, ¬ Rd H1 p (.tup xs) := plain_nt (by rw [h1]; trivial)
    exact ⟨p, us, v, rfl, rfl, h1, ltline (by rw [h2.len]; omega), k _ ⟨H1, _, e1, by rw [h1]; trivial, rfl⟩ (upd_lo (h2.app (.one v1)) (by rw [lfAll_app, l]; simp [lfAll, ld]) np)⟩
theorem s_pop {i j : Nat} {p : Addr} (E : Env B σ H Γ) (hi : Γ[i]? = some (some (.r p))) (L : Lo H p (ds ++ [d])) (l : lfAll (ds ++ [d]) = true)
    (k : ∀ v H', Mt K B H p H' → Lo H' p ds → Is H' v d → D.nx (σ.set j (some v)) H') : tAsg (tBM0 K "list" rPop (tVar i)) (gName j) D σ H := by
  obtain ⟨us, h1, h2⟩ := L
  refine ⟨_, E.slot hi, .inl ⟨rfl, us, .inl (.inl h1)⟩, ?_⟩
  obtain ⟨v, hv, iv⟩ := h2.at (i := ds.length) (d := d) (by simp)
  have hlen : us.length = ds.length + 1 := by rw [h2.len]; simp
  have np : ∀ xs, ¬ Rd H p (.tup xs) := plain_nt (by rw [h1]; trivial)
  have l2 : lfAll ds = true ∧ lf d = true := by
    rw [lfAll_app] at l
    simpa [lfAll] using l
  refine ⟨p, us, v, rfl, rfl, h1, by rw [hlen, Nat.add_sub_cancel]; exact hv, k v _ ⟨H, _, Ex.refl K H, by rw [h1]; trivial, rfl⟩ ⟨us.dropLast, upd_same, ?_⟩ (iv.upd l2.2 np)⟩
  have h3 : ∀ {ds : List PyData} {us : List V}, IsAll H us (ds ++ [d]) → IsAll H us.dropLast ds := by
    intro ds
    induction ds with
    | nil =>
      intro us h
      cases h with
      | cons a b => cases b; exact .nil
    | cons c ds ih =>
      intro us h
      cases h with
      | @cons v vs _ _ a b =>
        cases vs with
        | nil => have := b.len; simp at this
        | cons w ws => exact .cons a (ih b)
  exact (h3 h2).upd l2.1 np
theorem IsAll.set {us : List V} {v : V} (h : IsAll H us ds) (hv : Is H v d) (j : Nat) : IsAll H (us.set j v) (ds.set j d) := by
  induction ds generalizing us j with
  | nil => cases h; exact .nil
  | cons c ds ih =>
    cases h with
    | cons a b =>
      cases j with
      | zero => exact .cons hv b
      | succ j => exact .cons a (ih b j)
theorem lfAll_set {j : Nat} (l : lfAll ds = true) (ld : lf d = true) : lfAll (ds.set j d) = true := lfAll_of fun x hx => by
  rcases List.mem_or_eq_of_mem_set hx with h | h
  · exact lfAll_mem l h
  · rw [h]; exact ld
theorem ixN_nat {n j : Nat} (h : j < n) : ixN n (j : Int) = some j := by
  unfold ixN
  rw [if_pos (by omega), if_pos (by omega)]
  rfl
/-- x[j] = e -/
theorem s_set {i j : Nat} {p : Addr} (E : Env B σ H Γ) (hi : Γ[i]? = some (some (.r p))) (L : Lo H p ds) (nr : rowD ds = false) (l : lfAll ds = true) (h : Ev K B te Γ H (.d d)) (ld : lf d = true)
    (hj : ∀ H1, Ex K B H H1 → Ev K B tb Γ H1 (.d (nD j))) (hlt : j < ds.length)
    (k : ∀ H', Mt K B H p H' → Lo H' p (ds.set j d) → D.nx σ H') : tAsg te (gSub (tVar i) tb rSetL) D σ H := by
  refine h σ H E (Ex.refl K H) _ fun v H1 e1 v1 => ?_
  refine ⟨_, E.slot hi, ?_⟩
  refine hj H1 e1 σ H1 (E.mono e1) (Ex.refl K H1) _ fun y H2 e2 y2 => ?_
  cases (show Is H2 y (.int (j : Int)) from y2)
  obtain ⟨us, h1, h2⟩ := L.mono nr (e1.trans e2)
  have np : ∀ xs, ¬ Rd H2 p (.tup xs) := plain_nt (by rw [h1]; trivial)
  exact ⟨p, us, (j : Int), j, rfl, rfl, h1, ixN_nat (by rw [h2.len]; exact hlt), k _ ⟨H2, _, e1.trans e2, by rw [h1]; trivial, rfl⟩ (upd_lo (h2.set (Is.mono e2 v1) j) (lfAll_set l ld) np)⟩
end
end NB
set_option maxHeartbeats 1000000
/-! sorting, on data -/
namespace NB
open PySem PySem.Spec PyProof.Rows L2
def sortN (l : List Nat) : List Nat := l.mergeSort fun a b => decide (a ≤ b)
theorem sortN_perm (l : List Nat) : (sortN l).Perm l := List.mergeSort_perm ..
theorem sortN_le (l : List Nat) : (sortN l).Pairwise (· ≤ ·) := by
  refine (List.pairwise_mergeSort (le := fun a b => decide (a ≤ b)) (fun a b c h1 h2 => ?_) (fun a b => ?_) l).imp fun h => of_decide_eq_true h
  · exact decide_eq_true (Nat.le_trans (of_decide_eq_true h1) (of_decide_eq_true h2))
  · simp; omega
theorem sortN_uniq {l m : List Nat} (h : m.Perm l) (hs : m.Pairwise (· ≤ ·)) : m = sortN l :=
  List.Perm.eq_of_pairwise (fun a b _ _ h1 h2 => Nat.le_antisymm h1 h2) hs (sortN_le l) (h.trans (sortN_perm l).symm)
abbrev leL (x y : List Nat) : Bool := !lexN y x
def sortL (l : List (List Nat)) : List (List Nat) := l.mergeSort leL
theorem leL_tr (a b c : List Nat) (h1 : leL a b = true) (h2 : leL b c = true) : leL a c = true := by
  simp only [leL, Bool.not_eq_true'] at *
  cases e : lexN c a with
  | false => rfl
  | true =>
    exfalso
    cases e2 : lexN b c with
    | true => rw [lexN_tr _ _ _ e2 e] at h1; cases h1
    | false =>
      have := lexN_tot _ _ e2 h2
      subst this
      rw [e] at h1
      cases h1
theorem leL_tot (a b : List Nat) : (leL a b || leL b a) = true := by
  simp only [leL]
  cases e : lexN b a with
  | false => rfl
  | true => simp [lexN_asym _ _ e]
theorem sortL_perm (l : List (List Nat)) : (sortL l).Perm l := List.mergeSort_perm ..
theorem sortL_le (l : List (List Nat)) : (sortL l).Pairwise fun x y => lexN y x = false := by
  refine (List.pairwise_mergeSort leL_tr leL_tot l).imp fun h => ?_
  simpa [leL] using h
theorem sortL_uniq {l m : List (List Nat)} (h : m.Perm l) (hs : m.Pairwise fun x y => lexN y x = false) : m = sortL l :=
  List.Perm.eq_of_pairwise (fun a b _ _ h1 h2 => lexN_tot _ _ h2 h1) hs (sortL_le l) (h.trans (sortL_perm l).symm)
theorem lexN_int : ∀ x y : List Nat, ltL (x.map fun n : Nat => (n : Int)) (y.map fun n : Nat => (n : Int)) = lexN x y
  | [], [] => rfl
  | [], _ :: _ => rfl
  | _ :: _, [] => rfl
  | x :: xs, y :: ys => by
    show (if (x : Int) = (y : Int) then _ else _) = (if x = y then _ else _)
    by_cases h : x = y
    · rw [if_pos h, if_pos (by omega)]
      exact lexN_int xs ys
    · rw [if_neg h, if_neg (by omega)]
      show decide ((x : Int) < (y : Int)) = decide (x < y)
      by_cases h2 : x < y
      · rw [decide_eq_true h2, decide_eq_true (by omega)]
      · rw [decide_eq_false h2, decide_eq_false (by omega)]
section
variable {K : PySem.W.Frag} {B : Tbs} {Γ : Ga} {H H' : Hp} {te : TE} {P : Program} {w : World} {ds : List PyData}
/-- a permuted list of values -/
theorem isAll_perm {α : Type} {enc : α → PyData} {xs ys : List V} (h : ys.Perm xs) : ∀ ts : List α, IsAll H xs (ts.map enc) → ∃ ts' : List α, ts'.Perm ts ∧ IsAll H ys (ts'.map enc) := by
  induction h with
  | nil => exact fun ts h => ⟨ts, List.Perm.refl _, h⟩
  | cons x p ih =>
    intro ts h
    match ts, h with
    | t :: ts, h =>
      cases h with
      | cons a b =>
        obtain ⟨ts', h1, h2⟩ := ih ts b
        exact ⟨t :: ts', h1.cons t, .cons a h2⟩
  | swap x y l =>
    intro ts h
    match ts, h with
    | t :: ts, h =>
      cases h with
      | cons a b =>
        match ts, b with
        | u :: ts, b =>
          cases b with
          | cons a2 b2 => exact ⟨u :: t :: ts, List.Perm.swap _ _ _, .cons a2 (.cons a b2)⟩
  | trans p q ih1 ih2 =>
    intro ts h
    obtain ⟨t1, h1, h2⟩ := ih2 ts h
    obtain ⟨t2, h3, h4⟩ := ih1 t1 h2
    exact ⟨t2, h3.trans h1, h4⟩
theorem nats_int (t : List Nat) : t.map nV = (t.map fun n : Nat => (n : Int)).map V.int := by
  rw [List.map_map]
  rfl
theorem int_perm {t : List Nat} {ns : List Int} (h : ns.Perm (t.map fun n : Nat => (n : Int))) : ∃ t' : List Nat, ns = t'.map (fun n : Nat => (n : Int)) ∧ t'.Perm t := by
  refine ⟨ns.map Int.toNat, ?_, ?_⟩
  · rw [List.map_map]
    conv => lhs; rw [← List.map_id ns]
    refine List.map_congr_left fun i hi => ?_
    obtain ⟨n, _, e⟩ := List.mem_map.mp (h.mem_iff.mp hi)
    subst e
    rfl
  · have q := h.map Int.toNat
    rw [List.map_map] at q
    have e : t.map (Int.toNat ∘ fun n : Nat => (n : Int)) = t := by
      conv => rhs; rw [← List.map_id t]
      exact List.map_congr_left fun i _ => rfl
    rwa [e] at q
theorem int_sorted {t t' : List Nat} (hp : t'.Perm t) (h : (t'.map fun n : Nat => (n : Int)).Pairwise (· ≤ ·)) : t' = sortN t := sortN_uniq hp (by
  rw [List.pairwise_map] at h
  exact h.imp fun h => by omega)
/-- sorted: a tuple | a list of ints -/
theorem o_srtT {t : List Nat} (hz : t.length ≤ 1000) : OpLN K B (rSrtI K) [.d (tD t)] H ((sortN t).map nD) := fun vs H1 _ e hv Q q => by
  cases hv with
  | cons h1 h2 =>
    cases h2
    obtain ⟨a, rfl, r⟩ := is_tD (show Is H1 _ (tD t) from h1)
    rw [nats_int] at r
    refine ⟨a, _, rfl, by simpa using hz, .inr (.inl (.inl r)), fun ns p hp hs hn => ?_⟩
    obtain ⟨t', rfl, hp'⟩ := int_perm hp
    rw [int_sorted hp' hs, ← nats_int]
    exact q p _ _ hn (Ex.new hn) upd_same (isAll_nat _)
theorem is_lD {v : V} {t : List Nat} (h : Is H v (.list (t.map nD))) : ∃ a, v = .ref a ∧ H a = some (.lst (t.map nV)) := by
  cases h with
  | lst h1 _ h2 => exact ⟨_, rfl, by rw [isAll_nat_eq h2] at h1; exact h1⟩
theorem o_srtL {t : List Nat} (hz : t.length ≤ 1000) : OpLN K B (rSrtI K) [.d (.list (t.map nD))] H ((sortN t).map nD) := fun vs H1 _ e hv Q q => by
  cases hv with
  | cons h1 h2 =>
    cases h2
    obtain ⟨a, rfl, r⟩ := is_lD (show Is H1 _ (.list (t.map nD)) from h1)
    rw [nats_int] at r
    refine ⟨a, _, rfl, by simpa using hz, .inl (.inl (.inl r)), fun ns p hp hs hn => ?_⟩
    obtain ⟨t', rfl, hp'⟩ := int_perm hp
    rw [int_sorted hp' hs, ← nats_int]
    exact q p _ _ hn (Ex.new hn) upd_same (isAll_nat _)
theorem tups_of {xs : List V} : ∀ {ts : List (List Nat)}, (∀ t ∈ ts, t ≠ []) → IsAll H xs (ts.map tD) → TupsV H xs := by
  intro ts hne h x hx
  obtain ⟨i, hi⟩ := List.mem_iff_getElem?.mp hx
  obtain ⟨d, hd, iv⟩ := h.at' hi
  rw [List.getElem?_map] at hd
  obtain ⟨t, ht, rfl⟩ := Option.map_eq_some_iff.mp hd
  obtain ⟨a, rfl, r⟩ := is_tD iv
  rw [nats_int] at r
  exact ⟨a, _, rfl, r, fun z => hne t (List.mem_of_getElem? ht) (List.map_eq_nil_iff.mp z)⟩
theorem kvT_is {x : V} {t : List Nat} (h : Is H x (tD t)) : kvT H x = t.map fun n : Nat => (n : Int) := by
  obtain ⟨a, rfl, r⟩ := is_tD h
  rw [nats_int] at r
  exact kvT_at r
theorem pw_tups {ys : List V} : ∀ {ts : List (List Nat)}, IsAll H ys (ts.map tD) → ys.Pairwise (fun x y => ltL (kvT H y) (kvT H x) = false) → ts.Pairwise fun x y => lexN y x = false := by
  induction ys with
  | nil =>
    intro ts h _
    match ts, h with
    | [], _ => exact .nil
  | cons y ys ih =>
    intro ts h hp
    match ts, h with
    | t :: ts, h =>
      cases h with
      | cons a b =>
        obtain ⟨h1, h2⟩ := List.pairwise_cons.mp hp
        refine List.pairwise_cons.mpr ⟨fun u hu => ?_, ih b h2⟩
        obtain ⟨i, hi⟩ := List.mem_iff_getElem?.mp hu
        obtain ⟨v, hv, iv⟩ := b.at (i := i) (d := tD u) (by rw [List.getElem?_map, hi]; rfl)
        have q := h1 v (List.mem_of_getElem? hv)
        rw [kvT_is a, kvT_is iv, lexN_int] at q
        exact q
/-- sorted: a list of tuples of ints -/
theorem o_srtTs {ts : List (List Nat)} (hz : ts.length ≤ 1000) (hne : ∀ t ∈ ts, t ≠ []) : OpLN K B (rSrtT K P w) [.d (.list (ts.map tD))] H ((sortL ts).map tD) := fun vs H1 _ e hv Q q => by
  cases hv with
  | cons h1 h2 =>
    cases h2
    cases (show Is H1 _ (.list (ts.map tD)) from h1) with
    | @lst a us _ r nr i1 =>
      refine ⟨a, rfl, .inl ⟨us, .inl (.inl r), by rw [i1.len]; simpa using hz, tups_of hne i1, fun ys p hp hs hn => ?_⟩⟩
      obtain ⟨ts', hp', i2⟩ := isAll_perm hp ts i1
      have es := sortL_uniq hp' (pw_tups i2 hs)
      rw [es] at i2
      exact q p ys _ hn (Ex.new hn) upd_same (i2.mono (Ex.new (K := K) (B := B) hn))
/-- sorted: a list of tuples of tuples: some order -/
def pD (L : List (List Nat)) : PyData := .tuple (L.map tD)
theorem o_srtNs {Ls : List (List (List Nat))} (hz : Ls.length ≤ 1000) (hne : ∀ L ∈ Ls, L ≠ [] ∧ ∀ t ∈ L, t ≠ []) : ∀ vs H1, TbOk B H1 → Ex K B H H1 → SlsOk H1 [.d (.list (Ls.map pD))] vs → ∀ Q : VK, (∀ (Ls' : List (List (List Nat))) p us H2, Ls'.Perm Ls → H1 p = none → Ex K B H1 H2 → H2 p = some (.lst us) → IsAll H2 us (Ls'.map pD) → Q (.ref p) H2) → rSrtN K vs H1 Q := fun vs H1 _ e hv Q q => by
  cases hv with
  | cons h1 h2 =>
    cases h2
    cases (show Is H1 _ (.list (Ls.map pD)) from h1) with
    | @lst a us _ r nr i1 =>
      refine ⟨a, us, rfl, .inl (.inl r), by rw [i1.len]; simpa using hz, fun x hx => ?_, fun ys p hp hn => ?_⟩
      · obtain ⟨i, hi⟩ := List.mem_iff_getElem?.mp hx
        obtain ⟨d, hd, iv⟩ := i1.at' hi
        rw [List.getElem?_map] at hd
        obtain ⟨L, hL, rfl⟩ := Option.map_eq_some_iff.mp hd
        obtain ⟨n1, n2⟩ := hne L (List.mem_of_getElem? hL)
        cases (show Is H1 x (.tuple (L.map tD)) from iv) with
        | @tup b ws _ r2 i2 => exact ⟨b, ws, rfl, r2, fun z => by
            rw [z] at i2
            have := i2.len
            exact n1 (List.length_eq_zero_iff.mp (by simpa using this.symm)), tups_of n2 i2⟩
      · obtain ⟨Ls', hp', i2⟩ := isAll_perm hp Ls i1
        exact q Ls' p ys _ hp' hn (Ex.new hn) upd_same (i2.mono (Ex.new (K := K) (B := B) hn))
end
end NB
set_option maxHeartbeats 1000000
/-! what the small defs promise -/
namespace NB
open PySem PySem.Spec PyProof.Rows L2
theorem b1 {x : Str} {st : Stmt} {p : Str} (h : ∀ (kV doc pm : Value) (an : Option Addr) (cdv ct u : Value), bindArgs (PySem.W.fnOf x x (defArgs st) (defBody st) (defScope st) .none kV doc pm an cdv ct) ⟨[u], []⟩ = pure ([p].zip [u])) : bindsOk x st [p] := fun kV doc pm an cdv ct us hl => by
  match us, hl with
  | [u], _ => exact h kV doc pm an cdv ct u
theorem b0 {x : Str} {st : Stmt} (h : ∀ (kV doc pm : Value) (an : Option Addr) (cdv ct : Value), bindArgs (PySem.W.fnOf x x (defArgs st) (defBody st) (defScope st) .none kV doc pm an cdv ct) ⟨[], []⟩ = pure []) : bindsOk x st [] := fun kV doc pm an cdv ct us hl => by
  match us, hl with
  | [], _ => exact h kV doc pm an cdv ct
theorem b2 {x : Str} {st : Stmt} {p q : Str} (h : ∀ (kV doc pm : Value) (an : Option Addr) (cdv ct u v : Value), bindArgs (PySem.W.fnOf x x (defArgs st) (defBody st) (defScope st) .none kV doc pm an cdv ct) ⟨[u, v], []⟩ = pure ([p, q].zip [u, v])) : bindsOk x st [p, q] := fun kV doc pm an cdv ct us hl => by
  match us, hl with
  | [u, v], _ => exact h kV doc pm an cdv ct u v
theorem b3 {x : Str} {st : Stmt} {p q r : Str} (h : ∀ (kV doc pm : Value) (an : Option Addr) (cdv ct u v w : Value), bindArgs (PySem.W.fnOf x x (defArgs st) (defBody st) (defScope st) .none kV doc pm an cdv ct) ⟨[u, v, w], []⟩ = pure ([p, q, r].zip [u, v, w])) : bindsOk x st [p, q, r] := fun kV doc pm an cdv ct us hl => by
  match us, hl with
  | [u, v, w], _ => exact h kV doc pm an cdv ct u v w
section
variable {P : Program} {w : World} {K : PySem.W.Frag} {mg : Str → Option Value} {base : Heap} {B : Tbs} {c : Addr}
def CNum (ds : List PyData) (d : PyData) : Prop := ∃ v lo hi : Int, ds = [.int v, .int lo, .int hi] ∧ d = .bool (decide (lo ≤ v) && decide (v ≤ hi))
theorem pr_is_number (D : Dd K mg "is_number" s_is_number) (G : Bl mg) : Pr P w K mg base 1 "is_number" ["value", "low", "high"] (spD K B CNum) := by
  refine pr_of D sc_is_number (b3 fun _ _ _ _ _ _ _ _ _ => rfl) (spD_len (n := 3) fun ds d ⟨_, _, _, h, _⟩ => by rw [h]; rfl) fun f cdv A outer s H vs Q E hr h => ⟨_, (wt_is_number G hr).2, ?_⟩
  obtain ⟨tb, ds, d, hI, ⟨v, lo, hi, rfl, rfl⟩, k⟩ := h
  have E0 := env_start (N := N_is_number) tb (slsOk_data hI) (by rw [hI.len]; exact Nat.le_of_ble_eq_true rfl)
  refine s_ret E0 (ev_andV (a := true) (ev_isi (ev_var (s := .d (.int v)) rfl) rfl) fun _ => ev_andV (a := true) (ev_notV (a := false) (ev_isi (ev_var (s := .d (.int v)) rfl) rfl)) fun _ => ev_chain (ev_var (s := .d (.int lo)) rfl) (ev_var (s := .d (.int v)) rfl) (ev_var (s := .d (.int hi)) rfl) o_B0 o_B0) k

/-! ### shapes -/
def Shp (n : Nat) (d : PyData) : Prop := d.canLay0 = true ∧ d.depth ≤ n
theorem Shp.ok {n : Nat} {d : PyData} (h : Shp n d) (hn : n ≤ 64) : SeqAt.shaped d = true := by
  unfold SeqAt.shaped
  rw [h.1, decide_eq_true (Nat.le_trans h.2 hn)]
  rfl
theorem shp_all {n : Nat} : ∀ {ds : List PyData}, (∀ d ∈ ds, Shp n d) → PyData.canLayAll0 ds = true ∧ PyData.depthAll ds ≤ n
  | [], _ => ⟨by simp [PyData.canLayAll0], by simp [PyData.depthAll]⟩
  | d :: ds, h => by
    obtain ⟨h1, h2⟩ := h d List.mem_cons_self
    obtain ⟨h3, h4⟩ := shp_all (ds := ds) fun x hx => h x (List.mem_cons_of_mem _ hx)
    exact ⟨by simp [PyData.canLayAll0, h1, h3], by simp only [PyData.depthAll]; omega⟩
theorem shp_list {n : Nat} {ds : List PyData} (h : ∀ d ∈ ds, Shp n d) : Shp (n + 1) (.list ds) := by
  obtain ⟨h1, h2⟩ := shp_all h
  exact ⟨by simp [PyData.canLay0, h1], by simp only [PyData.depth]; omega⟩
theorem shp_tup {n : Nat} {ds : List PyData} (h : ∀ d ∈ ds, Shp n d) : Shp (n + 1) (.tuple ds) := by
  obtain ⟨h1, h2⟩ := shp_all h
  exact ⟨by simp [PyData.canLay0, h1], by simp only [PyData.depth]; omega⟩
theorem shp_nD (n : Nat) : Shp 0 (nD n) := ⟨by simp [PyData.canLay0], by simp [PyData.depth]⟩
theorem shp_int (n : Int) : Shp 0 (.int n) := ⟨by simp [PyData.canLay0], by simp [PyData.depth]⟩
theorem shp_tD (t : List Nat) : Shp 1 (tD t) := shp_tup fun d hd => by
  obtain ⟨n, _, rfl⟩ := List.mem_map.mp hd
  exact shp_nD n
theorem shp_lN (t : List Nat) : Shp 1 (.list (t.map nD)) := shp_list fun d hd => by
  obtain ⟨n, _, rfl⟩ := List.mem_map.mp hd
  exact shp_nD n
theorem shp_lT (ts : List (List Nat)) : Shp 2 (.list (ts.map tD)) := shp_list fun d hd => by
  obtain ⟨n, _, rfl⟩ := List.mem_map.mp hd
  exact shp_tD n
theorem eqvAll_nats : ∀ a b : List Nat, PyData.eqvAll (a.map nD) (b.map nD) = decide (a = b)
  | [], [] => by simp [PyData.eqvAll]
  | [], _ :: _ => by simp [PyData.eqvAll]
  | _ :: _, [] => by simp [PyData.eqvAll]
  | x :: xs, y :: ys => by
    simp only [List.map_cons, PyData.eqvAll, PyData.eqv, eqvAll_nats xs ys]
    by_cases h : x = y
    · subst h; simp
    · have h2 : ((x : Int) == (y : Int)) = false := by simpa using (show (x : Int) ≠ (y : Int) by omega)
      simp [h2, h]
theorem eqv_tD (a b : List Nat) : PyData.eqv (tD a) (tD b) = decide (a = b) := by
  unfold tD
  rw [PyData.eqv]
  exact eqvAll_nats a b
theorem eqv_lN (a b : List Nat) : PyData.eqv (.list (a.map nD)) (.list (b.map nD)) = decide (a = b) := by
  rw [PyData.eqv]
  exact eqvAll_nats a b
theorem eqv_nil (ds : List PyData) : PyData.eqv (.list ds) (.list []) = ds.isEmpty := by
  rw [PyData.eqv]
  cases ds <;> simp [PyData.eqvAll]
theorem any_tD (ts : List (List Nat)) (t : List Nat) : ((ts.map tD).any fun z => PyData.eqv z (tD t)) = decide (t ∈ ts) := by
  rw [List.any_map]
  induction ts with
  | nil => rfl
  | cons u ts ih =>
    rw [List.any_cons, ih]
    simp only [Function.comp, eqv_tD]
    by_cases h : u = t
    · subst h; simp
    · have : ¬ t = u := fun z => h z.symm
      simp [h, this]
theorem any_nD (ts : List Nat) (t : Nat) : ((ts.map nD).any fun z => PyData.eqv z (nD t)) = decide (t ∈ ts) := by
  rw [List.any_map]
  induction ts with
  | nil => rfl
  | cons u ts ih =>
    rw [List.any_cons, ih]
    simp only [Function.comp, PyData.eqv]
    by_cases h : u = t
    · subst h; simp
    · have : ¬ t = u := fun z => h z.symm
      have h2 : ((u : Int) == (t : Int)) = false := by simpa using (show (u : Int) ≠ (t : Int) by omega)
      simp [h2, this]
/-! ### booleans told otherwise -/
theorem EvT.to {Γ : Ga} {H : Hp} {tt : TT} {b c : Bool} (h : EvT K B tt Γ H b) (e : b = c) : EvT K B tt Γ H c := e ▸ h
theorem Ev.to {Γ : Ga} {H : Hp} {te : TE} {d e : PyData} (h : Ev K B te Γ H (.d d)) (q : d = e) : Ev K B te Γ H (.d e) := q ▸ h
theorem EvN.to {Γ : Ga} {H : Hp} {te : TE} {d e : List PyData} (h : EvN K B te Γ H d) (q : d = e) : EvN K B te Γ H e := q ▸ h
/-! ### is_turn .. -/
def CTurn (ds : List PyData) (d : PyData) : Prop := ∃ n t, ds = [nD n, tD t] ∧ d = .bool true ∧ IsTn n t ∧ n ≤ 8
theorem isTn_sort {n : Nat} {t : Tn} (h : IsTn n t) : sortN t = List.range n := (sortN_uniq (l := t) (m := List.range n) h.symm (List.pairwise_lt_range.imp Nat.le_of_lt)).symm
theorem pr_is_turn (D : DdT K mg "is_turn" s_is_turn c) (G : Bl mg) (TB : GxR.TabB base mg c B.it) (ne : TbNe B) (Dn : Pr P w K mg base 1 "is_number" ["value", "low", "high"] (spD K B CNum)) : Pr P w K mg base 5 "is_turn" ["halls", "value"] (spD K B CTurn) := by
  refine pr_ofT D sc_is_turn (b2 fun _ _ _ _ _ _ _ _ => rfl) (spD_len (n := 2) fun ds d ⟨_, _, h, _⟩ => by rw [h]; rfl) fun f A outer s H vs Q E hr h => ⟨_, (wt_is_turn TB G Dn hr).2, ?_⟩
  obtain ⟨tb, ds, d, hI, ⟨n, t, rfl, rfl, ht, n8⟩, k⟩ := h
  have E0 := env_start (N := N_is_turn) tb (slsOk_data hI) (by rw [hI.len]; exact Nat.le_of_ble_eq_true rfl)
  have v0 : ∀ H, Ev K B (tVar 0) [some (.d (nD n)), some (.d (tD t))] H (.d (nD n)) := fun H => ev_var rfl
  have v1 : ∀ H, Ev K B (tVar 1) [some (.d (nD n)), some (.d (tD t))] H (.d (tD t)) := fun H => ev_var rfl
  refine q_no E0 (et_or (a := false) (b := false) (et_not (a := true) (et_B (ev_isi (v1 H) rfl))) fun _ => et_or (a := false) (b := false) ((et_test (ev_op (ev_lenT (v1 H)) (v0 H) o_neI)).to ?_) fun _ => et_not (a := true) (et_B (ev_allG (s := .d (nD n)) ne (.inl rfl) (v1 H) rfl fun d hd => ?_))) fun H1 e E1 => ?_
  · simp [ht.len]
  · obtain ⟨x, hx, rfl⟩ := List.mem_map.mp hd
    refine ev_call (ds := [nD x, .int 0, .int ((n : Int) - 1)]) (ea3 (ev_var rfl) ev_int (ev_op (ev_var (s := .d (nD n)) rfl) ev_int o_I0)) ⟨_, _, _, rfl, ?_⟩
    have := ht.mem.mp hx
    rw [decide_eq_true (show (0 : Int) ≤ x by omega), decide_eq_true (show (x : Int) ≤ (n : Int) - 1 by omega)]
    rfl
  · refine s_ret E1 ((ev_op (EvN.ev (en_cb (ea1 (v1 H1)) (o_srtT (by rw [ht.len]; omega))) (row_nD _)) (EvN.ev (en_lstRg (v0 H1) (by omega)) (row_nD _)) (o_eqD ((shp_lN _).ok (by decide)) ((shp_lN _).ok (by decide)))).to (e := .bool true) ?_) fun v H2 e2 v2 => k v H2 (e.trans e2) v2
    rw [eqv_lN, isTn_sort ht]
    simp
/-- a house -/
structure HOkN (n : Nat) (ts : List Tn) : Prop where
  n1 : 1 ≤ n
  n8 : n ≤ 8
  t1 : 1 ≤ ts.length
  t6 : ts.length ≤ 6
  ok : ∀ t ∈ ts, IsTn n t
abbrev PTurn (P : Program) (w : World) (K : PySem.W.Frag) (mg : Str → Option Value) (base : Heap) (B : Tbs) : Prop := Pr P w K mg base 5 "is_turn" ["halls", "value"] (spD K B CTurn)
def CNon1 (ds : List PyData) (d : PyData) : Prop := ∃ n ts, ds = [hD n ts] ∧ d = .none ∧ HOkN n ts
theorem pr_wrong_part (D : DdT K mg "wrong_part" s_wrong_part c) (G : Bl mg) (TB : GxR.TabB base mg c B.wp) (ne : TbNe B) (Dn : Pr P w K mg base 1 "is_number" ["value", "low", "high"] (spD K B CNum)) (Dt : PTurn P w K mg base B) :
    Pr P w K mg base 9 "wrong_part" ["value"] (spD K B CNon1) := by
  refine pr_ofT D sc_wrong_part (b1 fun _ _ _ _ _ _ _ => rfl) (spD_len (n := 1) fun ds d ⟨_, _, h, _⟩ => by rw [h]; rfl) fun f A outer s H vs Q E hr h => ⟨_, (wt_wrong_part TB G Dn Dt hr).2, ?_⟩
  obtain ⟨tb, ds, d, hI, ⟨n, ts, rfl, rfl, ho⟩, k⟩ := h
  have E0 := env_start (N := N_wrong_part) tb (slsOk_data hI) (by rw [hI.len]; exact Nat.le_of_ble_eq_true rfl)
  obtain ⟨n1, n8, t1, t6, ok⟩ := ho
  have e8 : ∀ {Γ : Ga} {H : Hp}, (∃ t, mg "MOST_HALLS" = some (.int 8 t)) → Ev K B (tC (.int 8)) Γ H (.d (.int 8)) := fun _ => ev_int
  refine q_no E0 (et_or (a := false) (b := false) (et_not (a := true) (et_B (ev_isi (ev_var (s := .d (hD n ts)) rfl) rfl))) fun _ => (et_test (ev_op (ev_lenT (ds := [nD n, .tuple (ts.map tD)]) (ev_var rfl)) ev_int o_neI)).to ?_) fun H1 e1 E1 => ?_
  · rfl
  refine q_two (d1 := nD n) (d2 := .tuple (ts.map tD)) E1 (ev_var rfl) fun v1 v2 H2 e2 i1 i2 E2 => ?_
  refine q_no E2 (et_not (a := true) (et_B (ev_call (ds := [nD n, .int 1, .int 8]) (ea3 (ev_var rfl) ev_int ev_int) ⟨_, _, _, rfl, ?_⟩))) fun H3 e3 E3 => ?_
  · rw [decide_eq_true (show (1 : Int) ≤ n by omega), decide_eq_true (show (n : Int) ≤ 8 by omega)]
    rfl
  have ht1 : ∀ H, Ev K B (tVar 1) [some (.d (hD n ts)), some (.d (.tuple (ts.map tD))), some (.d (nD n))] H (.d (.tuple (ts.map tD))) := fun H => ev_var rfl
  refine q_no E3 (et_or (a := false) (b := false) (et_not (a := true) (et_B (ev_isi (ht1 _) rfl))) fun _ => et_not (a := true) ((et_test (ev_chain ev_int (ev_lenT (ht1 _)) ev_int o_B0 o_B0)).to ?_)) fun H4 e4 E4 => ?_
  · rw [List.length_map, decide_eq_true (show (1 : Int) ≤ ts.length by omega), decide_eq_true (show (ts.length : Int) ≤ 6 by omega)]
    rfl
  refine s_ret E4 (ev_if (b := true) (et_B (ev_allG (s := .d (nD n)) ne (.inr rfl) (ht1 _) rfl fun d hd => ?_)) (fun _ => ev_non) fun z => nomatch z) fun v H5 e5 v5 => k v H5 ((((e1.trans e2).trans e3).trans e4).trans e5) v5
  obtain ⟨t, ht, rfl⟩ := List.mem_map.mp hd
  exact ev_call (ds := [nD n, tD t]) (ea2 (ev_var rfl) (ev_var rfl)) ⟨n, t, rfl, rfl, ok t ht, n8⟩
theorem pr_need_house (D : Dd K mg "need_house" s_need_house) (G : Bl mg) (Dw : Pr P w K mg base 9 "wrong_part" ["value"] (spD K B CNon1)) : Pr P w K mg base 10 "need_house" ["value"] (spD K B CNon1) := by
  refine pr_of D sc_need_house (b1 fun _ _ _ _ _ _ _ => rfl) (spD_len (n := 1) fun ds d ⟨_, _, h, _⟩ => by rw [h]; rfl) fun f cdv A outer s H vs Q E hr h => ⟨_, (wt_need_house G Dw hr).2, ?_⟩
  obtain ⟨tb, ds, d, hI, ⟨n, ts, rfl, rfl, ho⟩, k⟩ := h
  have E0 := env_start (N := N_need_house) tb (slsOk_data hI) (by rw [hI.len]; exact Nat.le_of_ble_eq_true rfl)
  refine q_asg E0 (ev_call (ds := [hD n ts]) (ea1 (ev_var rfl)) ⟨n, ts, rfl, rfl, ho⟩) fun v H1 e1 v1 E1 => ?_
  refine s_if (b := false) E1 (et_test (ev_op (ev_var (s := .d .none) rfl) ev_non ?_)) (fun z => nomatch z) fun _ H2 e2 E2 => k .non H2 (e1.trans e2) .non
  intro x y H1 _ _ hx hy Q q
  cases (show Is H1 x .none from hx)
  cases (show Is H1 y .none from hy)
  exact ⟨rfl, q _ H1 (Ex.refl K H1) (.bl _)⟩
def CNon2 (ds : List PyData) (d : PyData) : Prop := ∃ n ts t, ds = [hD n ts, tD t] ∧ d = .none ∧ HOkN n ts ∧ IsTn n t
theorem pr_need_turn (D : Dd K mg "need_turn" s_need_turn) (G : Bl mg) (Dt : PTurn P w K mg base B) : Pr P w K mg base 6 "need_turn" ["house", "value"] (spD K B CNon2) := by
  refine pr_of D sc_need_turn (b2 fun _ _ _ _ _ _ _ _ => rfl) (spD_len (n := 2) fun ds d ⟨_, _, _, h, _⟩ => by rw [h]; rfl) fun f cdv A outer s H vs Q E hr h => ⟨_, (wt_need_turn G Dt hr).2, ?_⟩
  obtain ⟨tb, ds, d, hI, ⟨n, ts, t, rfl, rfl, ho, ht⟩, k⟩ := h
  have E0 := env_start (N := N_need_turn) tb (slsOk_data hI) (by rw [hI.len]; exact Nat.le_of_ble_eq_true rfl)
  refine s_if (b := false) E0 (et_not (a := true) (et_B (ev_call (ds := [nD n, tD t]) (ea2 (ev_op (ev_var (s := .d (hD n ts)) rfl) ev_int (o_ixT (j := 0) rfl)) (ev_var rfl)) ⟨n, t, rfl, rfl, ht, ho.n8⟩))) (fun z => nomatch z) fun _ H2 e2 E2 => k .non H2 e2 .non
/-! ### turns -/
def CStill (ds : List PyData) (d : PyData) : Prop := ∃ n, ds = [nD n] ∧ d = tD (List.range n) ∧ n ≤ 8
theorem pr_still (D : Dd K mg "still" s_still) (G : Bl mg) : Pr P w K mg base 1 "still" ["halls"] (spD K B CStill) := by
  refine pr_of D sc_still (b1 fun _ _ _ _ _ _ _ => rfl) (spD_len (n := 1) fun ds d ⟨_, h, _⟩ => by rw [h]; rfl) fun f cdv A outer s H vs Q E hr h => ⟨_, (wt_still G hr).2, ?_⟩
  obtain ⟨tb, ds, d, hI, ⟨n, rfl, rfl, n8⟩, k⟩ := h
  have E0 := env_start (N := N_still) tb (slsOk_data hI) (by rw [hI.len]; exact Nat.le_of_ble_eq_true rfl)
  exact s_ret E0 (ev_tupRg (ev_var rfl) (by omega)) k
def CThen (ds : List PyData) (d : PyData) : Prop := ∃ n a b, ds = [tD a, tD b] ∧ d = tD (thn a b) ∧ IsTn n a ∧ IsTn n b ∧ n ≤ 8
theorem at_nD {b : List Nat} {x : Nat} (h : x < b.length) : (b.map nD)[x]? = some (nD (b.getD x 0)) := by
  rw [List.getElem?_map, List.getElem?_eq_getElem h, List.getD_eq_getElem?_getD, List.getElem?_eq_getElem h]
  rfl
theorem pr_then (D : Dd K mg "then" s_then) (G : Bl mg) : Pr P w K mg base 1 "then" ["one", "other"] (spD K B CThen) := by
  refine pr_of D sc_then (b2 fun _ _ _ _ _ _ _ _ => rfl) (spD_len (n := 2) fun ds d ⟨_, _, _, h, _⟩ => by rw [h]; rfl) fun f cdv A outer s H vs Q E hr h => ⟨_, (wt_then G hr).2, ?_⟩
  obtain ⟨tb, ds, d, hI, ⟨n, a, b, rfl, rfl, ha, hb, n8⟩, k⟩ := h
  have E0 := env_start (N := N_then) tb (slsOk_data hI) (by rw [hI.len]; exact Nat.le_of_ble_eq_true rfl)
  refine s_ret E0 ((ev_tupN (ds := (thn a b).map nD) ((en_lcY (enc := nD) (val := fun x => nD (b.getD x 0)) (G' := fun x => [some (.d (tD a)), some (.d (tD b)), some (.d (nD x))]) (src_T (ds := a.map nD) (ev_var rfl)) (by rw [ha.len]; omega) (fun x hx => tgt_name (wipe1 2)) (fun x hx => ⟨ev_op (ev_var (s := .d (tD b)) rfl) (ev_var (s := .d (nD x)) rfl) (o_ixT (at_nD (by rw [hb.len]; exact ha.mem.mp hx))), rfl⟩) (hom_int fun d ⟨x, _, e⟩ => ⟨_, e⟩)).to ?_) (row_nD _)).to (e := tD (thn a b)) rfl) k
  unfold thn
  rw [List.map_map]
  rfl
end
end NB
/-! a work list closes a set under steps -/
namespace NB
section
variable {α : Type} [DecidableEq α] {st : α → List α} {x0 u y : α} {S found here dl : List α}
structure Clo (st : α → List α) (x0 : α) (S found here : List α) : Prop where
  fN : found.Nodup
  fS : ∀ x ∈ found, x ∈ S
  hN : here.Nodup
  hf : ∀ x ∈ here, x ∈ found
  x0f : x0 ∈ found
  rt : ∀ x ∈ found, RT (fun a b => b ∈ st a) x0 x
  cl : ∀ x ∈ found, x ∉ here → ∀ y ∈ st x, y ∈ found
structure CloI (st : α → List α) (x0 : α) (S : List α) (u : α) (dl found here : List α) : Prop where
  fN : found.Nodup
  fS : ∀ x ∈ found, x ∈ S
  hN : here.Nodup
  hf : ∀ x ∈ here, x ∈ found
  x0f : x0 ∈ found
  rt : ∀ x ∈ found, RT (fun a b => b ∈ st a) x0 x
  one : u ∈ found
  dn : ∀ y ∈ dl, y ∈ found
  cl : ∀ x ∈ found, x ∉ here → x ≠ u → ∀ y ∈ st x, y ∈ found
theorem Clo.start (h : x0 ∈ S) : Clo st x0 S [x0] [x0] :=
  ⟨List.nodup_cons.mpr ⟨by simp, List.nodup_nil⟩, fun x hx => by rw [List.mem_singleton.mp hx]; exact h, List.nodup_cons.mpr ⟨by simp, List.nodup_nil⟩, fun x hx => hx, by simp, fun x hx => by rw [List.mem_singleton.mp hx]; exact .refl, fun x hx hn => absurd hx hn⟩
theorem Clo.pop (h : Clo st x0 S found (here ++ [u])) : CloI st x0 S u [] found here := by
  obtain ⟨n1, n2, n3⟩ := List.nodup_append.mp h.hN
  refine ⟨h.fN, h.fS, n1, fun x hx => h.hf x (List.mem_append_left _ hx), h.x0f, h.rt, h.hf u (by simp), fun y hy => by simp at hy, fun x hx hn ne => h.cl x hx fun z => ?_⟩
  rcases List.mem_append.mp z with z | z
  · exact hn z
  · exact ne (List.mem_singleton.mp z)
theorem CloI.skip (h : CloI st x0 S u dl found here) (hy : y ∈ found) : CloI st x0 S u (dl ++ [y]) found here :=
  ⟨h.fN, h.fS, h.hN, h.hf, h.x0f, h.rt, h.one, fun z hz => (List.mem_append.mp hz).elim (h.dn z) fun e => by rw [List.mem_singleton.mp e]; exact hy, h.cl⟩
theorem nodup_snoc {l : List α} (h : l.Nodup) (hy : y ∉ l) : (l ++ [y]).Nodup := List.nodup_append.mpr ⟨h, List.nodup_cons.mpr ⟨by simp, List.nodup_nil⟩, fun a ha b hb e => hy (by rw [List.mem_singleton.mp hb] at e; rw [← e]; exact ha)⟩
theorem CloI.add (h : CloI st x0 S u dl found here) (hy : y ∉ found) (hst : y ∈ st u) (hS : y ∈ S) : CloI st x0 S u (dl ++ [y]) (found ++ [y]) (here ++ [y]) := by
  refine ⟨nodup_snoc h.fN hy, fun x hx => ?_, nodup_snoc h.hN fun z => hy (h.hf y z), fun x hx => ?_, List.mem_append_left _ h.x0f, fun x hx => ?_, List.mem_append_left _ h.one, fun z hz => ?_, fun x hx hn ne z hz => ?_⟩
  · rcases List.mem_append.mp hx with z | z
    · exact h.fS x z
    · rw [List.mem_singleton.mp z]; exact hS
  · rcases List.mem_append.mp hx with z | z
    · exact List.mem_append_left _ (h.hf x z)
    · exact List.mem_append_right _ z
  · rcases List.mem_append.mp hx with z | z
    · exact h.rt x z
    · rw [List.mem_singleton.mp z]
      exact (h.rt u h.one).tail hst
  · rcases List.mem_append.mp hz with e | e
    · exact List.mem_append_left _ (h.dn z e)
    · exact List.mem_append_right _ e
  · rcases List.mem_append.mp hx with q | q
    · exact List.mem_append_left _ (h.cl x q (fun z => hn (List.mem_append_left _ z)) ne z hz)
    · exact absurd (List.mem_append_right _ q) hn
theorem CloI.fin (h : CloI st x0 S u dl found here) (hd : ∀ y ∈ st u, y ∈ dl) : Clo st x0 S found here :=
  ⟨h.fN, h.fS, h.hN, h.hf, h.x0f, h.rt, fun x hx hn y hy => by
    by_cases e : x = u
    · subst e
      exact h.dn y (hd y hy)
    · exact h.cl x hx hn e y hy⟩
theorem Clo.done (h : Clo st x0 S found []) (x : α) : x ∈ found ↔ RT (fun a b => b ∈ st a) x0 x :=
  ⟨h.rt x, fun r => RT.inv (P := fun x => x ∈ found) (fun a b ha hb => h.cl a ha (by simp) b hb) r h.x0f⟩
theorem Clo.flen (h : Clo st x0 S found here) : found.length ≤ S.length := nd_len _ _ h.fN h.fS
theorem Clo.hlen (h : Clo st x0 S found here) : here.length ≤ S.length := nd_len _ _ h.hN fun x hx => h.fS x (h.hf x hx)
theorem CloI.flen (h : CloI st x0 S u dl found here) : found.length ≤ S.length := nd_len _ _ h.fN h.fS
theorem CloI.hlen (h : CloI st x0 S u dl found here) : here.length ≤ S.length := nd_len _ _ h.hN fun x hx => h.fS x (h.hf x hx)
end
end NB
set_option maxHeartbeats 1000000
/-! loops over enumerate, dicts of tuples -/
namespace NB
open PySem PySem.Spec PyProof.Rows L2
section
variable {P : Program} {w : World} {K : PySem.W.Frag} {B : Tbs} {Γ : Ga} {H H' : Hp} {ta tb tc te ti tk : TE} {tu tz : TS} {s s1 s2 s3 : Sl} {ds es : List PyData} {d e : PyData} {D : Ends} {σ : St}
/-- over enumerate(a tuple) -/
theorem s_forE {j j2 : Nat} (E : Env B σ H Γ) (h : Ev K B te Γ H (.d (.tuple ds))) (hl : lfAll ds = true) (Pv : Nat → St → Hp → Prop) (h0 : ∀ H1, Ex K B H H1 → Env B σ H1 Γ → Pv 0 σ H1)
    (hs : ∀ i d v σ' H' H'', ds[i]? = some d → Ex K B H' H'' → Is H'' v d → Pv i σ' H' → tu { D with nx := fun σ2 H2 => Pv (i + 1) σ2 H2 ∧ Tk H' H2, ct := fun σ2 H2 => Pv (i + 1) σ2 H2 ∧ Tk H' H2, bk := D.nx } ((σ'.set j (some (nV i))).set j2 (some v)) H'')
    (hd : ∀ σ' H', Pv ds.length σ' H' → D.nx σ' H') : tFor (iEnT K (tCons te tNil)) (gTup K 2 (gCons (gName j) (gCons (gName j2) gNil))) tu D σ H :=
  h σ H E (Ex.refl K H) _ fun v H1 e v1 => by
    cases (show Is H1 v (.tuple ds) from v1) with
    | @tup a vs _ h1 h2 =>
      have hlen := h2.len
      refine ⟨a, vs, rfl, .inl h1, fun i m σ' H' => m = vs.length - i ∧ i ≤ vs.length ∧ Pv i σ' H' ∧ Tk H1 H', ⟨vs.length, by simp, Nat.zero_le _, h0 H1 e (E.mono e), Tk.refl _⟩, ?_⟩
      rintro i m σ' H' ⟨rfl, hi, p, t⟩
      have hq : SqT K H' a vs := .inl (t a vs h1)
      by_cases hlt : i < vs.length
      · refine .inr ⟨⟨vs, vs[i], hq, by simp [hlt]⟩, fun σ2 H2 => Pv (i + 1) σ2 H2 ∧ Tk H' H2, fun σ2 H2 p2 => ⟨vs.length - (i + 1), by omega, rfl, hlt, p2.1, t.trans p2.2⟩, fun x H2 y => ?_⟩
        obtain ⟨T, u, rfl, hT, rfl, hu⟩ := y
        have hx := hu vs hq
        obtain ⟨d, hd', id'⟩ := h2.at' hx
        have ld : lf d = true := lfAll_mem hl (List.mem_of_getElem? hd')
        have eN : Ex K B H' (upd H' T (.tup [.int (i : Nat), u])) := Ex.new hT
        have st := hs i d u σ' H' _ hd' eN ((t.is ld id').mono eN) p
        refine ⟨T, _, rfl, .inl (.inl upd_same), rfl, _, _, rfl, _, _, rfl, rfl, ?_⟩
        exact st
      · have ei : i = vs.length := by omega
        subst ei
        refine .inl ⟨⟨vs, hq, Nat.le_refl _⟩, hd σ' H' ?_⟩
        rw [← hlen]
        exact p
theorem walk_enT {a : Addr} {vs : List V} : Walk (IteT K a) vs.length (fun H => SqT K H a vs) fun i H v H' => ∃ T x, v = .ref T ∧ H T = none ∧ H' = upd H T (.tup [.int (i : Nat), x]) ∧ vs[i]? = some x :=
  ⟨fun i H hi h => ⟨vs, vs[i], h, by simp [hi]⟩, fun H h => ⟨vs, h, Nat.le_refl _⟩, fun i H x H' hi h y => by
    obtain ⟨T, u, e1, e2, e3, k⟩ := y
    exact ⟨T, u, e1, e2, e3, k vs h⟩⟩
/-- enumerate as a comprehension's source -/
def enD (ds : List PyData) : List PyData := ds.zipIdx.map fun p => .tuple [nD p.2, p.1]
theorem enD_at {ds : List PyData} {i : Nat} {d : PyData} (h : ds[i]? = some d) : (enD ds)[i]? = some (.tuple [nD i, d]) := by
  unfold enD
  rw [List.getElem?_map, List.getElem?_zipIdx, h]
  simp
theorem src_En (h : Ev K B te Γ H (.d (.tuple ds))) : Src K B (iEnT K (tCons te tNil)) Γ H (enD ds) := fun σ H1 E e R k =>
  h σ H1 E e _ fun v H2 e2 v2 => by
    cases (show Is H2 v (.tuple ds) from v2) with
    | @tup a vs _ h1 h2 =>
      refine ⟨a, vs, rfl, .inl h1, ?_⟩
      have hl : (enD ds).length = vs.length := by unfold enD; simp [h2.len]
      refine k _ H2 (fun H => SqT K H a vs) _ e2 (by rw [hl]; exact walk_enT) (fun H3 e3 => .inl (e3.rd h1)) fun i d H3 v H4 hd e3 y => ?_
      obtain ⟨T, u, rfl, hT, rfl, hu⟩ := y
      obtain ⟨d', hd', iv⟩ := h2.at' hu
      rw [enD_at hd'] at hd
      cases hd
      have eN : Ex K B H3 (upd H3 T (.tup [.int (i : Nat), u])) := Ex.new hT
      exact ⟨eN, .tup (.inl upd_same) (.cons (.int _) (.cons ((iv.mono e3).mono eN) .nil))⟩
theorem Env.drop (E : Env B σ H Γ) (i : Nat) : Env B σ H (Γ.set i none) := ⟨E.tb, by rw [List.length_set, E.len], fun j g hg => by
  by_cases h : j = i
  · subst h
    rw [List.getElem?_set] at hg
    split at hg
    · split at hg <;> cases hg
    · rename_i h; exact absurd rfl h
  · rw [List.getElem?_set_ne (Ne.symm h)] at hg
    exact E.at_ j g hg⟩
/-! ### dicts of tuples -/
def keyN (t : List Nat) : List Key := (t.map fun n : Nat => (n : Int)).map Sum.inl
theorem keyN_kV (t : List Nat) : (keyN t).map kV = t.map nV := by
  unfold keyN
  rw [kv_inl, ← nats_int]
theorem inj_map {α β : Type} {f : α → β} (hf : ∀ a b, f a = f b → a = b) : ∀ {l m : List α}, l.map f = m.map f → l = m
  | [], [], _ => rfl
  | [], _ :: _, h => by cases h
  | _ :: _, [], h => by cases h
  | a :: l, b :: m, h => by
    obtain ⟨h1, h2⟩ := List.cons.inj h
    rw [hf a b h1, inj_map hf h2]
theorem keyN_inj {t u : List Nat} (h : keyN t = keyN u) : t = u := by
  unfold keyN at h
  have h2 : (t.map fun n : Nat => (n : Int)) = u.map fun n : Nat => (n : Int) := inj_map (f := (Sum.inl : Int → Key)) (fun a b e => Sum.inl.inj e) h
  exact inj_map (f := fun n : Nat => (n : Int)) (fun a b (e : (a : Int) = (b : Int)) => by omega) h2
def DkX (P : Program) (w : World) (H : Hp) (p : Addr) (ks : List (List Nat)) : Prop := ∃ xs : KA, H p = some (DicO P w p xs) ∧ KeysAt H xs ∧ xs.map (·.1) = ks.map keyN
theorem DkX.plain {p : Addr} {ks : List (List Nat)} (h : DkX P w H p ks) : Plain (H p) := by
  obtain ⟨xs, h1, _⟩ := h
  rw [h1]
  exact fun c q => dicO_ne c q
theorem DkX.keep {p : Addr} {ks : List (List Nat)} (h : DkX P w H p ks) (t : Tk H H') (e : ∀ o, H p = some o → Fix o → H' p = some o) : DkX P w H' p ks := by
  obtain ⟨xs, h1, h2, h3⟩ := h
  exact ⟨xs, e _ h1 fix_ext, fun x hx => t _ _ (h2 x hx), h3⟩
theorem DkX.mono {p : Addr} {ks : List (List Nat)} (h : DkX P w H p ks) (e : Ex K B H H') : DkX P w H' p ks := h.keep e.tk fun o => e.fx p o
theorem DkX.mt {p q : Addr} {ks : List (List Nat)} (h : DkX P w H p ks) (m : Mt K B H q H') (ne : p ≠ q) : DkX P w H' p ks := h.keep m.tk fun o h f => m.at h f ne
theorem memK_keyN {xs : KA} {ks : List (List Nat)} (h : xs.map (·.1) = ks.map keyN) (t : List Nat) : memK xs (keyN t) = decide (t ∈ ks) := by
  unfold memK
  induction ks generalizing xs with
  | nil =>
    cases xs with
    | nil => rfl
    | cons a b => cases h
  | cons k ks ih =>
    cases xs with
    | nil => cases h
    | cons a b =>
      have h1 : a.1 = keyN k := by simpa using (List.cons.inj h).1
      rw [List.any_cons, ih (List.cons.inj h).2, h1]
      by_cases e : t = k
      · subst e; simp
      · have : ¬ keyN k = keyN t := fun z => e (keyN_inj z).symm
        simp [this, e]
theorem is_key {v : V} {t : List Nat} (h : Is H v (tD t)) : ∃ b, v = .ref b ∧ Rd H b (.tup ((keyN t).map kV)) := by
  obtain ⟨a, e, r⟩ := is_tD h
  exact ⟨a, e, by rw [keyN_kV]; exact r⟩
theorem r_disX {Q : VK} {t : List Nat} (E : Env B σ H Γ) (h : ∀ H1, Ex K B H H1 → Ev K B tk Γ H1 (.d (tD t))) (k : ∀ p H', H p = none → Ex K B H H' → DkX P w H' p [t] → Q (.ref p) H') : tDisX P w tk σ H Q := fun p hp => by
  have e1 : Ex K B H (upd H p (DicO P w p [])) := Ex.new hp
  refine h _ e1 σ _ (E.mono e1) (Ex.refl K _) _ fun v H2 e2 v2 => ?_
  obtain ⟨b, rfl, r⟩ := is_key v2
  have hp2 : H2 p = some (DicO P w p []) := e2.fx p _ upd_same fix_ext
  refine ⟨hp2, b, keyN t, rfl, r, k p _ hp ((e1.trans e2).mut hp (by rw [hp2]; exact fun c q => dicO_ne c q)) ⟨_, upd_same, fun x hx => ?_, rfl⟩⟩
  rw [List.mem_singleton.mp hx]
  exact tk_upd (by rw [hp2]; exact fun c q => dicO_ne c q) _ _ r
/-- x in d, the dict in a slot -/
theorem et_notInX {i : Nat} {p : Addr} {t : List Nat} {ks : List (List Nat)} (hi : Γ[i]? = some (some (.r p))) (hd : DkX P w H p ks) (h : Ev K B te Γ H (.d (tD t))) : EvT K B (tTest (tOp (rNotInX P w) te (tVar i))) Γ H (!decide (t ∈ ks)) := fun σ H1 E e Q q =>
  h σ H1 E e _ fun v H2 e2 v2 => by
    obtain ⟨b, rfl, r⟩ := is_key v2
    refine ⟨_, (E.mono e2).slot hi, ?_⟩
    obtain ⟨xs, h1, h2, h3⟩ := hd.mono (e.trans e2)
    refine ⟨b, keyN t, p, xs, rfl, rfl, r, h1, h2, _, rfl, ?_⟩
    rw [memK_keyN h3]
    exact q H2 e2
/-- d[x] = True, x new -/
theorem s_setX {i : Nat} {p : Addr} {t : List Nat} {ks : List (List Nat)} (E : Env B σ H Γ) (hi : Γ[i]? = some (some (.r p))) (hd : DkX P w H p ks) (h : ∀ H1, Ex K B H H1 → Ev K B tk Γ H1 (.d (tD t))) (hn : t ∉ ks) (hz : ks.length < 999)
    (k : ∀ H', Mt K B H p H' → DkX P w H' p (ks ++ [t]) → D.nx σ H') : tAsg (tC (.bl true)) (gSub (tVar i) tk (tSetX P w)) D σ H := by
  refine ⟨_, E.slot hi, h H (Ex.refl K H) σ H E (Ex.refl K H) _ fun v H1 e1 v1 => ?_⟩
  obtain ⟨b, rfl, r⟩ := is_key v1
  have hd1 := hd.mono e1
  have pl := hd1.plain
  obtain ⟨xs, h1, h2, h3⟩ := hd1
  have hl : xs.length = ks.length := by simpa using congrArg List.length h3
  refine ⟨p, b, keyN t, xs, rfl, rfl, rfl, r, h1, h2, by rw [memK_keyN h3]; simpa using hn, ltline (by omega), k _ ⟨H1, _, e1, pl, rfl⟩ ⟨_, upd_same, fun x hx => ?_, by rw [List.map_append, List.map_append, h3]; rfl⟩⟩
  rcases List.mem_append.mp hx with z | z
  · exact tk_upd pl _ _ (h2 x z)
  · rw [List.mem_singleton.mp z]
    exact tk_upd pl _ _ r
theorem ev_lenX {i : Nat} {p : Addr} {ks : List (List Nat)} (hi : Γ[i]? = some (some (.r p))) (hd : DkX P w H p ks) : Ev K B (tCB (rLenX P w) (tCons (tVar i) tNil)) Γ H (.d (nD ks.length)) := fun σ H1 E e Q q => by
  refine ⟨_, E.slot hi, ?_⟩
  obtain ⟨xs, h1, h2, h3⟩ := hd.mono e
  have hl : xs.length = ks.length := by simpa using congrArg List.length h3
  refine ⟨p, xs, rfl, h1, h2, ?_⟩
  rw [hl]
  exact q _ H1 (Ex.refl K H1) (.int _)
theorem keys_is {xs : KA} {ks : List (List Nat)} (h : KeysAt H xs) (e : xs.map (·.1) = ks.map keyN) : IsAll H (xs.map fun x => V.ref x.2) (ks.map tD) := by
  induction ks generalizing xs with
  | nil =>
    cases xs with
    | nil => exact .nil
    | cons a b => cases e
  | cons k ks ih =>
    cases xs with
    | nil => cases e
    | cons a b =>
      have h1 : a.1 = keyN k := by simpa using (List.cons.inj e).1
      refine .cons ?_ (ih (fun x hx => h x (List.mem_cons_of_mem _ hx)) (List.cons.inj e).2)
      have r := h a List.mem_cons_self
      rw [h1, keyN_kV] at r
      exact tD_is r
theorem en_lstX {i : Nat} {p : Addr} {ks : List (List Nat)} (hi : Γ[i]? = some (some (.r p))) (hd : DkX P w H p ks) : EvN K B (tCB (rLstX P w) (tCons (tVar i) tNil)) Γ H (ks.map tD) := fun σ H1 E e Q q => by
  refine ⟨_, E.slot hi, ?_⟩
  obtain ⟨xs, h1, h2, h3⟩ := hd.mono e
  exact ⟨p, xs, rfl, h1, fun r hr => q r _ _ hr (Ex.new hr) upd_same ((keys_is h2 h3).mono (Ex.new (K := K) (B := B) hr))⟩
theorem en_srtX {i : Nat} {p : Addr} {ks : List (List Nat)} (hi : Γ[i]? = some (some (.r p))) (hd : DkX P w H p ks) (hz : ks.length ≤ 1000) (hne : ∀ t ∈ ks, t ≠ []) : EvN K B (tCB (rSrtT K P w) (tCons (tVar i) tNil)) Γ H ((sortL ks).map tD) := fun σ H1 E e Q q => by
  refine ⟨_, E.slot hi, ?_⟩
  obtain ⟨xs, h1, h2, h3⟩ := hd.mono e
  have hl : xs.length = ks.length := by simpa using congrArg List.length h3
  refine ⟨p, rfl, .inr ⟨xs, h1, h2, by omega, fun x hx => ?_, fun ys r hp hs hr => ?_⟩⟩
  · have hm : x.1 ∈ ks.map keyN := by rw [← h3]; exact List.mem_map.mpr ⟨x, hx, rfl⟩
    obtain ⟨t, ht, e⟩ := List.mem_map.mp hm
    exact ⟨_, e.symm, fun z => hne t ht (List.map_eq_nil_iff.mp z)⟩
  · obtain ⟨ts', hp', i2⟩ := isAll_perm hp ks (keys_is h2 h3)
    have es := sortL_uniq hp' (pw_tups i2 hs)
    rw [es] at i2
    exact q r ys _ hr (Ex.new hr) upd_same (i2.mono (Ex.new (K := K) (B := B) hr))
/-- a new dict of tuples -/
def EvX (P : Program) (w : World) (K : PySem.W.Frag) (B : Tbs) (te : TE) (Γ : Ga) (H : Hp) (ts : List (List Nat)) : Prop :=
  ∀ σ H1, Env B σ H1 Γ → Ex K B H H1 → ∀ Q : VK, (∀ p H2, H1 p = none → Ex K B H1 H2 → DkX P w H2 p ts → Q (.ref p) H2) → te σ H1 Q
theorem ex_disX {t : List Nat} (h : ∀ H1, Ex K B H H1 → Ev K B tk Γ H1 (.d (tD t))) : EvX P w K B (tDisX P w tk) Γ H [t] := fun σ H1 E e Q q => r_disX E (fun H2 e2 => h H2 (e.trans e2)) q
theorem q_parXN {i j : Nat} {ts : List (List Nat)} (E : Env B σ H Γ) (ha : EvX P w K B ta Γ H ts) (hb : ∀ H1, Ex K B H H1 → EvN K B tb Γ H1 ds)
    (k : ∀ p q H', H p = none → H q = none → p ≠ q → Ex K B H H' → DkX P w H' p ts → Lo H' q ds → Env B ((σ.set i (some (.ref p))).set j (some (.ref q))) H' ((Γ.set i (some (.r p))).set j (some (.r q))) → tz D ((σ.set i (some (.ref p))).set j (some (.ref q))) H') : tSeq (tPar i j (tCons ta (tCons tb tNil))) tz D σ H :=
  ha σ H E (Ex.refl K H) _ fun p H1 hp e1 h1 => hb H1 e1 σ H1 (E.mono e1) (Ex.refl K H1) _ fun q us H2 hq e2 h2 i2 => by
    refine ⟨_, _, rfl, k p q H2 hp (e1.sm q hq) (fun z => ?_) (e1.trans e2) (h1.mono e2) ⟨us, h2, i2⟩ ((((E.mono e1).mono e2).set (s := .r p) rfl).set (s := .r q) rfl)⟩
    obtain ⟨xs, h, _⟩ := h1
    rw [z, hq] at h
    cases h
theorem q_parNN {i j : Nat} (E : Env B σ H Γ) (ha : EvN K B ta Γ H ds) (nr : rowD ds = false) (hb : ∀ H1, Ex K B H H1 → EvN K B tb Γ H1 es)
    (k : ∀ p q H', H p = none → H q = none → p ≠ q → Ex K B H H' → Lo H' p ds → Lo H' q es → Env B ((σ.set i (some (.ref p))).set j (some (.ref q))) H' ((Γ.set i (some (.r p))).set j (some (.r q))) → tz D ((σ.set i (some (.ref p))).set j (some (.ref q))) H') : tSeq (tPar i j (tCons ta (tCons tb tNil))) tz D σ H :=
  ha σ H E (Ex.refl K H) _ fun p vs H1 hp e1 h1 i1 => hb H1 e1 σ H1 (E.mono e1) (Ex.refl K H1) _ fun q us H2 hq e2 h2 i2 => by
    refine ⟨_, _, rfl, k p q H2 hp (e1.sm q hq) (fun z => ?_) (e1.trans e2) (Lo.mono ⟨vs, h1, i1⟩ nr e2) ⟨us, h2, i2⟩ ((((E.mono e1).mono e2).set (s := .r p) rfl).set (s := .r q) rfl)⟩
    rw [z, hq] at h1
    cases h1
theorem q_parDN {i j : Nat} (E : Env B σ H Γ) (ha : Ev K B ta Γ H s) (hb : ∀ H1, Ex K B H H1 → EvN K B tb Γ H1 es)
    (k : ∀ v q H', H q = none → Ex K B H H' → Lo H' q es → Env B ((σ.set i (some v)).set j (some (.ref q))) H' ((Γ.set i (some s)).set j (some (.r q))) → tz D ((σ.set i (some v)).set j (some (.ref q))) H') : tSeq (tPar i j (tCons ta (tCons tb tNil))) tz D σ H :=
  ha σ H E (Ex.refl K H) _ fun v H1 e1 h1 => hb H1 e1 σ H1 (E.mono e1) (Ex.refl K H1) _ fun q us H2 hq e2 h2 i2 =>
    ⟨_, _, rfl, k v q H2 (e1.sm q hq) (e1.trans e2) ⟨us, h2, i2⟩ ((((E.mono e1).mono e2).set (s := s) (h1.mono e2)).set (s := .r q) rfl)⟩
theorem q_append {i : Nat} {p : Addr} (E : Env B σ H Γ) (hi : Γ[i]? = some (some (.r p))) (L : Lo H p ds) (nr : rowD ds = false) (l : lfAll ds = true) (hz : ds.length < 999) (h : Ev K B te Γ H (.d d)) (ld : lf d = true)
    (k : ∀ H', Mt K B H p H' → Lo H' p (ds ++ [d]) → tz D σ H') : tSeq (tDrop (tBM K "list" rAppend (tVar i) (tCons te tNil))) tz D σ H := s_append (D := { D with nx := tz D }) E hi L nr l hz h ld k
theorem q_pop {i j : Nat} {p : Addr} (E : Env B σ H Γ) (hi : Γ[i]? = some (some (.r p))) (L : Lo H p (ds ++ [d])) (l : lfAll (ds ++ [d]) = true)
    (k : ∀ v H', Mt K B H p H' → Lo H' p ds → Is H' v d → tz D (σ.set j (some v)) H') : tSeq (tAsg (tBM0 K "list" rPop (tVar i)) (gName j)) tz D σ H := s_pop (D := { D with nx := tz D }) E hi L l k
theorem q_setX {i : Nat} {p : Addr} {t : List Nat} {ks : List (List Nat)} (E : Env B σ H Γ) (hi : Γ[i]? = some (some (.r p))) (hd : DkX P w H p ks) (h : ∀ H1, Ex K B H H1 → Ev K B tk Γ H1 (.d (tD t))) (hn : t ∉ ks) (hz : ks.length < 999)
    (k : ∀ H', Mt K B H p H' → DkX P w H' p (ks ++ [t]) → tz D σ H') : tSeq (tAsg (tC (.bl true)) (gSub (tVar i) tk (tSetX P w))) tz D σ H := s_setX (D := { D with nx := tz D }) E hi hd h hn hz k
end
end NB
set_option maxHeartbeats 2000000
/-! members_of and its kin -/
namespace NB
open PySem PySem.Spec PyProof.Rows L2
/-- the small group of a house, ascending -/
structure GOk (n : Nat) (ts S : List Tn) : Prop where
  ho : HOkN n ts
  g : Grp n ts S
  sz : S.length ≤ 120
  so : S.Pairwise fun x y => lexN x y = true
def stT (ts : List Tn) (a : Tn) : List Tn := ts.map fun t => thn a t
theorem stT_rt {n : Nat} {ts S : List Tn} (G : GOk n ts S) (x : Tn) : RT (fun a b => b ∈ stT ts a) (List.range n) x ↔ x ∈ S := by
  rw [G.g.mem x]
  have e : (fun a b => b ∈ stT ts a) = stepT ts := by
    funext a b
    apply propext
    unfold stT
    rw [List.mem_map]
    exact ⟨fun ⟨t, h, e⟩ => ⟨t, h, e.symm⟩, fun ⟨t, h, e⟩ => ⟨t, h, e.symm⟩⟩
  rw [e]
theorem GOk.ne {n : Nat} {ts S : List Tn} (G : GOk n ts S) {t : Tn} (h : t ∈ S) : t ≠ [] := fun z => by
  have := (G.g.isT h).len
  have h1 := G.ho.n1
  rw [z] at this
  simp at this
  omega
theorem GOk.sorted {n : Nat} {ts S found : List Tn} (G : GOk n ts S) (c : Clo (stT ts) (List.range n) S found []) : sortL found = S := by
  have h1 : (sortL found).Nodup := (sortL_perm found).nodup_iff.mpr c.fN
  refine lexN_uniq (strict_of (sortL_le found) h1) G.so fun x => ?_
  rw [(sortL_perm found).mem_iff, c.done, stT_rt G]
section
variable {P : Program} {w : World} {K : PySem.W.Frag} {mg : Str → Option Value} {base : Heap} {B : Tbs} {c : Addr}
theorem map_snoc (ts : List (List Nat)) (t : List Nat) : ts.map tD ++ [tD t] = (ts ++ [t]).map tD := by simp
theorem lf_snoc (ts : List (List Nat)) (t : List Nat) : lfAll (ts.map tD ++ [tD t]) = true := by rw [map_snoc]; exact lf_tDs _
theorem row_snoc (ts : List (List Nat)) (t : List Nat) : rowD (ts.map tD ++ [tD t]) = false := by rw [map_snoc]; exact row_tD _
structure MSt (P : Program) (w : World) (K : PySem.W.Frag) (B : Tbs) (H0 : Hp) (pf ph : Addr) (found here : List Tn) (Γ : Ga) (σ : St) (H : Hp) : Prop where
  ex : Ex K B H0 H
  nf : H0 pf = none
  nh : H0 ph = none
  ne : pf ≠ ph
  df : DkX P w H pf found
  lh : Lo H ph (here.map tD)
  env : Env B σ H Γ
def CMem (ds es : List PyData) : Prop := ∃ n ts S, ds = [hD n ts] ∧ es = S.map tD ∧ GOk n ts S
theorem pr_members_of (D : Dd K mg "members_of" s_members_of) (G : Bl mg) (Ds : Pr P w K mg base 1 "still" ["halls"] (spD K B CStill)) (Dt : Pr P w K mg base 1 "then" ["one", "other"] (spD K B CThen)) :
    Pr P w K mg base 2 "members_of" ["house"] (spN K B CMem) := by
  refine pr_of D sc_members_of (b1 fun _ _ _ _ _ _ _ => rfl) (spN_len (n := 1) fun ds d ⟨_, _, _, h, _⟩ => by rw [h]; rfl) fun f cdv A outer s H vs Q E hr h => ⟨_, (wt_members_of G Ds Dt hr).2, ?_⟩
  obtain ⟨tb, ds, es, hI, ⟨n, ts, S, rfl, rfl, hG⟩, k⟩ := h
  have E0 := env_start (N := N_members_of) tb (slsOk_data hI) (by rw [hI.len]; exact Nat.le_of_ble_eq_true rfl)
  have n8 := hG.ho.n8
  refine q_asg E0 (ev_call (ds := [nD n]) (ea1 (ev_op (ev_var (s := .d (hD n ts)) rfl) ev_int (o_ixT (j := 0) rfl))) ⟨n, rfl, rfl, n8⟩) fun v1 H1 e1 i1 E1 => ?_
  -- found, here
  refine q_parXN (K := K) (ts := [List.range n]) (ds := [tD (List.range n)]) E1 (ex_disX fun H2 _ => ev_var (i := 1) rfl) (fun H2 _ => en_lst (ds := [tD (List.range n)]) (ea1 (ev_var (i := 1) (s := .d (tD (List.range n))) rfl)) (Nat.le_of_ble_eq_true rfl)) fun pf ph H3 hpf hph pfh e3 df lh E3 => ?_
  have M0 : MSt P w K B H pf ph [List.range n] [List.range n] [some (.d (hD n ts)), some (.d (tD (List.range n))), some (.r pf), some (.r ph), none, none, none] _ H3 :=
    ⟨e1.trans e3, e1.sm _ hpf, e1.sm _ hph, pfh, df, lh, E3⟩
  have C0 : Clo (stT ts) (List.range n) S [List.range n] [List.range n] := Clo.start hG.g.one
  refine q_while (K := K) (B := B) (fun m σ' H' => ∃ found here, Clo (stT ts) (List.range n) S found here ∧ MSt P w K B H pf ph found here [some (.d (hD n ts)), some (.d (tD (List.range n))), some (.r pf), some (.r ph), none, none, none] σ' H' ∧ m = 2 * (S.length - found.length) + here.length) _ ⟨_, _, C0, M0, rfl⟩ ?_
  rintro m σ' H' ⟨found, here, C, M, rfl⟩
  have hz := C.hlen
  have fz := C.flen
  have sz := hG.sz
  refine ⟨_, _, M.env, et_tru (ev_varL rfl M.lh (row_tD _)), fun hb H4 e4 E4 => ?_, fun hb H4 e4 E4 => ?_⟩
  · obtain ⟨hs, one, rfl⟩ : ∃ hs one, here = hs ++ [one] := by
      rcases List.eq_nil_or_concat here with z | ⟨hs, one, z⟩
      · rw [z] at hb; simp at hb
      · exact ⟨hs, one, by rw [z, List.concat_eq_append]⟩
    have C1 := C.pop
    have oS : one ∈ S := C1.fS one C1.one
    have ot := hG.g.isT oS
    have L4 := M.lh.mono (row_tD _) e4
    rw [List.map_append] at L4
    refine q_pop E4 rfl L4 (lf_snoc _ _) fun v5 H5 m5 L5 i5 => ?_
    have E5 := (m5.env E4 (by simp [lfO, lfS, lf_hD, lf_tD])).set (i := 4) (s := .d (tD one)) i5
    have M5 : MSt P w K B H pf ph found hs [some (.d (hD n ts)), some (.d (tD (List.range n))), some (.r pf), some (.r ph), some (.d (tD one)), none, none] _ H5 :=
      ⟨m5.ex (M.ex.trans e4) M.nh, M.nf, M.nh, M.ne, (M.df.mono e4).mt m5 M.ne, L5, E5⟩
    refine s_forT (K := K) (B := B) M5.env (ds := ts.map tD) (ev_op (ev_var (s := .d (hD n ts)) rfl) ev_int (o_ixT (j := 1) rfl)) (lf_tDs _) (fun i σ' H' => ∃ found' here', CloI (stT ts) (List.range n) S one ((ts.take i).map fun t => thn one t) found' here' ∧ MSt P w K B H pf ph found' here' [some (.d (hD n ts)), some (.d (tD (List.range n))), some (.r pf), some (.r ph), some (.d (tD one)), none, none] σ' H' ∧
      2 * (S.length - found'.length) + here'.length + 1 ≤ 2 * (S.length - found.length) + (hs ++ [one]).length) ?_ ?_ ?_
    · exact fun H6 e6 E6 => ⟨found, hs, C1, ⟨M5.ex.trans e6, M.nf, M.nh, M.ne, M5.df.mono e6, M5.lh.mono (row_tD _) e6, E6⟩, by simp; omega⟩
    · rintro i d v σ6 H6 hd iv ⟨found', here', C6, M6, hm⟩
      rw [List.getElem?_map] at hd
      obtain ⟨t, ht, rfl⟩ := Option.map_eq_some_iff.mp hd
      have tm : t ∈ ts := List.mem_of_getElem? ht
      have tt := hG.ho.ok t tm
      have take : ((ts.take (i + 1)).map fun t => thn one t) = ((ts.take i).map fun t => thn one t) ++ [thn one t] := by
        rw [List.take_add_one, ht, List.map_append]
        rfl
      have lS : thn one t ∈ S := hG.g.mul oS ((hG.g.mem t).mpr (by rw [← still_thn tt]; exact RT.one ⟨t, tm, rfl⟩))
      have E7 := M6.env.set (i := 5) (s := .d (tD t)) iv
      have fz6 := C6.flen
      have hz6 := C6.hlen
      refine q_asg E7 (ev_call (ds := [tD one, tD t]) (ea2 (ev_var (i := 4) rfl) (ev_var (i := 5) rfl)) ⟨n, one, t, rfl, rfl, ot, tt, n8⟩) fun v8 H8 e8 i8 E8 => ?_
      have df8 := M6.df.mono e8
      have lh8 := M6.lh.mono (row_tD _) e8
      refine s_if (K := K) E8 (et_notInX (t := thn one t) (p := pf) rfl df8 (ev_var (i := 6) rfl)) (fun hb H9 e9 E9 => ?_) fun hb H9 e9 E9 => ?_
      · have hn : thn one t ∉ found' := by simpa using hb
        have C9 := C6.add hn (by unfold stT; exact List.mem_map.mpr ⟨t, tm, rfl⟩) lS
        rw [← take] at C9
        have fz9 := C9.flen
        have hz9 := C9.hlen
        rw [List.length_append] at fz9 hz9
        refine q_setX (K := K) E9 rfl (df8.mono e9) (fun H' _ => ev_var (i := 6) rfl) hn (by omega) fun H10 m10 df10 => ?_
        have E10 := m10.env E9 (by simp [lfO, lfS, lf_hD, lf_tD])
        have lh10 := m10.lo (lh8.mono (row_tD _) e9) (row_tD _) (lf_tDs _) M.ne.symm
        refine q_append E10 rfl lh10 (row_tD _) (lf_tDs _) (by rw [List.length_map]; omega) (ev_var (i := 6) (s := .d (tD (thn one t))) rfl) (lf_tD _) fun H11 m11 lh11 => ?_
        have E11 := m11.env E10 (by simp [lfO, lfS, lf_hD, lf_tD])
        have df11 := df10.mt m11 M.ne
        have ex11 : Ex K B H H11 := m11.ex (m10.ex ((M6.ex.trans e8).trans e9) M.nf) M.nh
        refine s_if (K := K) (b := false) E11 ((et_test (ev_op (ev_lenX (i := 2) rfl df11) ev_int o_B0)).to ?_) (fun z => nomatch z) fun _ H12 e12 E12 => ⟨⟨_, _, C9, ⟨ex11.trans e12, M.nf, M.nh, M.ne, df11.mono e12, ?_, (E12.drop 5).drop 6⟩, ?_⟩, ?_⟩
        · rw [List.length_append]
          exact decide_eq_false (by simp; omega)
        · rw [List.map_append]
          exact lh11.mono (row_snoc _ _) e12
        · simp only [List.length_append, List.length_cons, List.length_nil] at hm fz9 hz9 ⊢
          omega
        · exact (((e8.tk.trans e9.tk).trans m10.tk).trans m11.tk).trans e12.tk
      · have hy : thn one t ∈ found' := by simpa using hb
        refine ⟨⟨found', here', ?_, ⟨(M6.ex.trans e8).trans e9, M.nf, M.nh, M.ne, df8.mono e9, lh8.mono (row_tD _) e9, (E9.drop 5).drop 6⟩, hm⟩, e8.tk.trans e9.tk⟩
        rw [take]
        exact C6.skip hy
    · rintro σ6 H6 ⟨found', here', C6, M6, hm⟩
      rw [List.length_map, List.take_length] at C6
      exact ⟨_, by omega, found', here', C6.fin fun y hy => hy, ⟨M6.ex, M6.nf, M6.nh, M6.ne, M6.df, M6.lh, M6.env.drop 4⟩, rfl⟩
  · have hh : here = [] := by
      cases here with
      | nil => rfl
      | cons a b => simp at hb
    subst hh
    refine s_retN E4 ((en_srtX (i := 2) rfl (M.df.mono e4) (by omega) fun t ht => hG.ne (C.fS t ht)).to (e := S.map tD) ?_) fun p us H5 hp e5 h5 i5 => k p us H5 ((M.ex.trans e4).sm _ hp) ((M.ex.trans e4).trans e5) h5 i5
    rw [hG.sorted C]
end
end NB
set_option maxHeartbeats 2000000
/-! the asked defs, but the lots -/
namespace NB
open PySem PySem.Spec PyProof.Rows L2
section
variable {P : Program} {w : World} {K : PySem.W.Frag} {mg : Str → Option Value} {base : Heap} {B : Tbs} {c : Addr}
abbrev PHouse (P : Program) (w : World) (K : PySem.W.Frag) (mg : Str → Option Value) (base : Heap) (B : Tbs) : Prop := Pr P w K mg base 10 "need_house" ["value"] (spD K B CNon1)
abbrev PNTurn (P : Program) (w : World) (K : PySem.W.Frag) (mg : Str → Option Value) (base : Heap) (B : Tbs) : Prop := Pr P w K mg base 6 "need_turn" ["house", "value"] (spD K B CNon2)
abbrev PMem (P : Program) (w : World) (K : PySem.W.Frag) (mg : Str → Option Value) (base : Heap) (B : Tbs) : Prop := Pr P w K mg base 2 "members_of" ["house"] (spN K B CMem)
def CMems (ds : List PyData) (d : PyData) : Prop := ∃ n ts S, ds = [hD n ts] ∧ d = .tuple (S.map tD) ∧ GOk n ts S
theorem pr_members (D : Dd K mg "members" s_members) (G : Bl mg) (Dh : PHouse P w K mg base B) (Dm : PMem P w K mg base B) : Pr P w K mg base 11 "members" ["house"] (spD K B CMems) := by
  refine pr_of D sc_members (b1 fun _ _ _ _ _ _ _ => rfl) (spD_len (n := 1) fun ds d ⟨_, _, _, h, _⟩ => by rw [h]; rfl) fun f cdv A outer s H vs Q E hr h => ⟨_, (wt_members G Dh Dm hr).2, ?_⟩
  obtain ⟨tb, ds, d, hI, ⟨n, ts, S, rfl, rfl, hG⟩, k⟩ := h
  have E0 := env_start (N := N_members) tb (slsOk_data hI) (by rw [hI.len]; exact Nat.le_of_ble_eq_true rfl)
  refine q_drop (K := K) E0 (ev_call (ds := [hD n ts]) (ea1 (ev_var rfl)) ⟨n, ts, rfl, rfl, hG.ho⟩) fun H1 e1 E1 => ?_
  exact s_ret (K := K) E1 (ev_tupN (en_call (ds := [hD n ts]) (ea1 (ev_var rfl)) ⟨n, ts, S, rfl, rfl, hG⟩) (row_tD _)) fun v H2 e2 => k v H2 (e1.trans e2)
def COrd (ds : List PyData) (d : PyData) : Prop := ∃ n ts S, ds = [hD n ts] ∧ d = nD S.length ∧ GOk n ts S
theorem pr_order (D : Dd K mg "order" s_order) (G : Bl mg) (Dh : PHouse P w K mg base B) (Dm : PMem P w K mg base B) : Pr P w K mg base 11 "order" ["house"] (spD K B COrd) := by
  refine pr_of D sc_order (b1 fun _ _ _ _ _ _ _ => rfl) (spD_len (n := 1) fun ds d ⟨_, _, _, h, _⟩ => by rw [h]; rfl) fun f cdv A outer s H vs Q E hr h => ⟨_, (wt_order G Dh Dm hr).2, ?_⟩
  obtain ⟨tb, ds, d, hI, ⟨n, ts, S, rfl, rfl, hG⟩, k⟩ := h
  have E0 := env_start (N := N_order) tb (slsOk_data hI) (by rw [hI.len]; exact Nat.le_of_ble_eq_true rfl)
  refine q_drop (K := K) E0 (ev_call (ds := [hD n ts]) (ea1 (ev_var rfl)) ⟨n, ts, rfl, rfl, hG.ho⟩) fun H1 e1 E1 => ?_
  exact s_ret (K := K) E1 ((ev_len (EvN.ev (en_call (ds := [hD n ts]) (ea1 (ev_var rfl)) ⟨n, ts, S, rfl, rfl, hG⟩) (row_tD _))).to (by rw [List.length_map])) fun v H2 e2 => k v H2 (e1.trans e2)
def CIsM (ds : List PyData) (d : PyData) : Prop := ∃ n ts S t, ds = [hD n ts, tD t] ∧ d = .bool (decide (t ∈ S)) ∧ GOk n ts S ∧ IsTn n t
theorem pr_is_member (D : Dd K mg "is_member" s_is_member) (G : Bl mg) (Dh : PHouse P w K mg base B) (Dt : PNTurn P w K mg base B) (Dm : PMem P w K mg base B) : Pr P w K mg base 11 "is_member" ["house", "turn"] (spD K B CIsM) := by
  refine pr_of D sc_is_member (b2 fun _ _ _ _ _ _ _ _ => rfl) (spD_len (n := 2) fun ds d ⟨_, _, _, _, h, _⟩ => by rw [h]; rfl) fun f cdv A outer s H vs Q E hr h => ⟨_, (wt_is_member G Dh Dt Dm hr).2, ?_⟩
  obtain ⟨tb, ds, d, hI, ⟨n, ts, S, t, rfl, rfl, hG, ht⟩, k⟩ := h
  have E0 := env_start (N := N_is_member) tb (slsOk_data hI) (by rw [hI.len]; exact Nat.le_of_ble_eq_true rfl)
  refine q_drop (K := K) E0 (ev_call (ds := [hD n ts]) (ea1 (ev_var rfl)) ⟨n, ts, rfl, rfl, hG.ho⟩) fun H1 e1 E1 => ?_
  refine q_drop (K := K) E1 (ev_call (ds := [hD n ts, tD t]) (ea2 (ev_var rfl) (ev_var rfl)) ⟨n, ts, t, rfl, rfl, hG.ho, ht⟩) fun H2 e2 E2 => ?_
  exact s_ret (K := K) E2 ((ev_op (ev_var (s := .d (tD t)) rfl) (EvN.ev (en_call (ds := [hD n ts]) (ea1 (ev_var rfl)) ⟨n, ts, S, rfl, rfl, hG⟩) (row_tD _)) (o_inD ((shp_tD _).ok (by decide)) ((shp_lT _).ok (by decide)))).to (by rw [any_tD])) fun v H3 e3 => k v H3 ((e1.trans e2).trans e3)
/-! ### stayers -/
def fixT (t : Tn) : List Nat := (List.range t.length).filter fun x => decide (t.getD x 0 = x)
def CFix (ds : List PyData) (d : PyData) : Prop := ∃ n t, ds = [tD t] ∧ d = tD (fixT t) ∧ IsTn n t ∧ n ≤ 8
theorem enD_nats (t : List Nat) : enD (t.map nD) = (List.range t.length).map fun i => .tuple [nD i, nD (t.getD i 0)] := by
  refine List.ext_getElem? fun i => ?_
  by_cases hi : i < t.length
  · rw [enD_at (at_nD hi), List.getElem?_map, List.getElem?_range hi]
    rfl
  · rw [List.getElem?_eq_none (by unfold enD; simp; omega), List.getElem?_eq_none (by simp; omega)]
theorem filter_map_nD (l : List Nat) : l.map nD = l.map fun x => nD x := rfl
theorem pr_stayers_of (D : Dd K mg "stayers_of" s_stayers_of) (G : Bl mg) : Pr P w K mg base 1 "stayers_of" ["turn"] (spD K B CFix) := by
  refine pr_of D sc_stayers_of (b1 fun _ _ _ _ _ _ _ => rfl) (spD_len (n := 1) fun ds d ⟨_, _, h, _⟩ => by rw [h]; rfl) fun f cdv A outer s H vs Q E hr h => ⟨_, (wt_stayers_of G hr).2, ?_⟩
  obtain ⟨tb, ds, d, hI, ⟨n, t, rfl, rfl, ht, n8⟩, k⟩ := h
  have E0 := env_start (N := N_stayers_of) tb (slsOk_data hI) (by rw [hI.len]; exact Nat.le_of_ble_eq_true rfl)
  have hz := ht.len
  unfold wt_stayers_of
  dsimp only [List.map]
  refine s_ret (K := K) E0 ((ev_tupN (ds := (fixT t).map nD) (en_lc (enc := fun i => .tuple [nD i, nD (t.getD i 0)]) (xs := List.range t.length) (keep := fun x => decide (t.getD x 0 = x)) (val := nD) (G' := fun x => [some (.d (tD t)), some (.d (nD x)), some (.d (nD (t.getD x 0)))])
    ?_ (by rw [List.length_range]; omega) (fun x hx => tgt_two (i := 1) (j := 2) (wipe2 (by decide))) (fun x hx => (et_test (ev_op (ev_var (i := 1) (s := .d (nD x)) rfl) (ev_var (i := 2) (s := .d (nD (t.getD x 0))) rfl) o_eqI)).to ?_) (fun x hx _ => ⟨ev_var (i := 1) rfl, rfl⟩) (hom_int fun d ⟨x, _, _, e⟩ => ⟨_, e⟩)) (row_nD _)).to (e := tD (fixT t)) rfl) fun v H1 e1 v1 => k v H1 e1 v1
  · rw [← enD_nats]
    exact src_En (ev_var rfl)
  · by_cases e : t.getD x 0 = x
    · rw [decide_eq_true (show (x : Int) = ((t.getD x 0 : Nat) : Int) by omega), decide_eq_true e]
    · rw [decide_eq_false (show ¬ (x : Int) = ((t.getD x 0 : Nat) : Int) by omega), decide_eq_false e]
def CStay (ds : List PyData) (d : PyData) : Prop := ∃ n ts t, ds = [hD n ts, tD t] ∧ d = tD (fixT t) ∧ HOkN n ts ∧ IsTn n t
theorem pr_stayers (D : Dd K mg "stayers" s_stayers) (G : Bl mg) (Dh : PHouse P w K mg base B) (Dt : PNTurn P w K mg base B) (Df : Pr P w K mg base 1 "stayers_of" ["turn"] (spD K B CFix)) : Pr P w K mg base 11 "stayers" ["house", "turn"] (spD K B CStay) := by
  refine pr_of D sc_stayers (b2 fun _ _ _ _ _ _ _ _ => rfl) (spD_len (n := 2) fun ds d ⟨_, _, _, h, _⟩ => by rw [h]; rfl) fun f cdv A outer s H vs Q E hr h => ⟨_, (wt_stayers G Dh Dt Df hr).2, ?_⟩
  obtain ⟨tb, ds, d, hI, ⟨n, ts, t, rfl, rfl, hG, ht⟩, k⟩ := h
  have E0 := env_start (N := N_stayers) tb (slsOk_data hI) (by rw [hI.len]; exact Nat.le_of_ble_eq_true rfl)
  refine q_drop (K := K) E0 (ev_call (ds := [hD n ts]) (ea1 (ev_var rfl)) ⟨n, ts, rfl, rfl, hG⟩) fun H1 e1 E1 => ?_
  refine q_drop (K := K) E1 (ev_call (ds := [hD n ts, tD t]) (ea2 (ev_var rfl) (ev_var rfl)) ⟨n, ts, t, rfl, rfl, hG, ht⟩) fun H2 e2 E2 => ?_
  exact s_ret (K := K) E2 (ev_call (ds := [tD t]) (ea1 (ev_var rfl)) ⟨n, t, rfl, rfl, ht, hG.n8⟩) fun v H3 e3 => k v H3 ((e1.trans e2).trans e3)
/-! ### made -/
def mkT (n : Nat) (ts : List Tn) (row : List Nat) : Tn := row.foldl (fun f l => thn f (ts.getD l [])) (List.range n)
def CMade (ds : List PyData) (d : PyData) : Prop := ∃ n ts row, ds = [hD n ts, tD row] ∧ d = tD (mkT n ts row) ∧ HOkN n ts ∧ (∀ l ∈ row, l < ts.length) ∧ row.length ≤ 100
theorem at_tD {ts : List (List Nat)} {x : Nat} (h : x < ts.length) : (ts.map tD)[x]? = some (tD (ts.getD x [])) := by
  rw [List.getElem?_map, List.getElem?_eq_getElem h, List.getD_eq_getElem?_getD, List.getElem?_eq_getElem h]
  rfl
theorem getD_mem {α : Type} {ts : List α} {x : Nat} {d : α} (h : x < ts.length) : ts.getD x d ∈ ts := by
  rw [List.getD_eq_getElem?_getD, List.getElem?_eq_getElem h]
  exact List.getElem_mem h
theorem mkT_isTn {n : Nat} {ts : List Tn} (ho : HOkN n ts) : ∀ {row : List Nat} {t : Tn}, IsTn n t → (∀ l ∈ row, l < ts.length) → IsTn n (row.foldl (fun f l => thn f (ts.getD l [])) t)
  | [], _, h, _ => h
  | l :: row, t, h, hl => mkT_isTn (row := row) ho (h.thn (ho.ok _ (getD_mem (hl l List.mem_cons_self)))) fun x hx => hl x (List.mem_cons_of_mem _ hx)
theorem foldl_take {α β : Type} (f : β → α → β) (b : β) (l : List α) (i : Nat) {a : α} (h : l[i]? = some a) : (l.take (i + 1)).foldl f b = f ((l.take i).foldl f b) a := by
  rw [List.take_add_one, h, List.foldl_append]
  rfl
theorem pr_made (D : Dd K mg "made" s_made) (G : Bl mg) (Dh : PHouse P w K mg base B) (Dn : Pr P w K mg base 1 "is_number" ["value", "low", "high"] (spD K B CNum)) (Ds : Pr P w K mg base 1 "still" ["halls"] (spD K B CStill)) (Dt : Pr P w K mg base 1 "then" ["one", "other"] (spD K B CThen)) :
    Pr P w K mg base 11 "made" ["house", "row"] (spD K B CMade) := by
  refine pr_of D sc_made (b2 fun _ _ _ _ _ _ _ _ => rfl) (spD_len (n := 2) fun ds d ⟨_, _, _, h, _⟩ => by rw [h]; rfl) fun f cdv A outer s H vs Q E hr h => ⟨_, (wt_made G Dh Dn Ds Dt hr).2, ?_⟩
  obtain ⟨tb, ds, d, hI, ⟨n, ts, row, rfl, rfl, ho, hl, hz⟩, k⟩ := h
  have E0 := env_start (N := N_made) tb (slsOk_data hI) (by rw [hI.len]; exact Nat.le_of_ble_eq_true rfl)
  refine q_drop (K := K) E0 (ev_call (ds := [hD n ts]) (ea1 (ev_var rfl)) ⟨n, ts, rfl, rfl, ho⟩) fun H1 e1 E1 => ?_
  have r1 : ∀ {x y z : Option Sl} H, Ev K B (tVar 1) [some (.d (hD n ts)), some (.d (tD row)), x, y, z] H (.d (.tuple (row.map nD))) := fun H => ev_var rfl
  have h0 : ∀ {x y z : Option Sl} H, Ev K B (tVar 0) [some (.d (hD n ts)), some (.d (tD row)), x, y, z] H (.d (hD n ts)) := fun H => ev_var rfl
  refine q_no (K := K) (B := B) (Γ := [some (.d (hD n ts)), some (.d (tD row)), none, none, none]) E1 (et_or (a := false) (b := false) (et_not (a := true) (et_B (ev_isi (r1 H1) rfl))) fun _ => (et_test (ev_op (ev_lenT (r1 H1)) ev_int o_B0)).to ?_) fun H2 e2 E2 => ?_
  · rw [List.length_map]
    exact decide_eq_false (by omega)
  refine s_forE (K := K) (B := B) (D := { nx := _, bk := _, ct := _, rt := _ }) E2 (r1 H2) (lf_nats _) (fun i σ' H' => Ex K B H H' ∧ Env B σ' H' [some (.d (hD n ts)), some (.d (tD row)), none, none, none]) (fun H3 e3 E3 => ⟨(e1.trans e2).trans e3, E3⟩) ?_ ?_
  · rintro i d v σ3 H3 H4 hd e4 iv ⟨e3, E3⟩
    rw [List.getElem?_map] at hd
    obtain ⟨l, hl', rfl⟩ := Option.map_eq_some_iff.mp hd
    have ll := hl l (List.mem_of_getElem? hl')
    have E4 := ((E3.mono e4).set (i := 2) (s := .d (nD i)) (.int _)).set (i := 3) (s := .d (nD l)) iv
    refine s_if (K := K) (b := false) E4 (et_not (a := true) (et_B (ev_call (ds := [nD l, .int 0, .int ((ts.length : Int) - 1)]) (ea3 (ev_var (i := 3) rfl) ev_int (ev_op (ev_lenT (ds := ts.map tD) (ev_op (h0 H4) ev_int (o_ixT (j := 1) rfl))) ev_int ?_)) ⟨_, _, _, rfl, ?_⟩))) (fun z => nomatch z) fun _ H5 e5 E5 => ?_
    · rw [List.length_map]
      exact o_I0
    · rw [decide_eq_true (show (0 : Int) ≤ l by omega), decide_eq_true (show (l : Int) ≤ (ts.length : Int) - 1 by omega)]
      rfl
    · exact ⟨⟨(e3.trans e4).trans e5, (E5.drop 2).drop 3⟩, e4.tk.trans e5.tk⟩
  rintro σ3 H3 ⟨e3, E3⟩
  refine q_asg (K := K) E3 (ev_call (ds := [nD n]) (ea1 (ev_op (h0 H3) ev_int (o_ixT (j := 0) rfl))) ⟨n, rfl, rfl, ho.n8⟩) fun v4 H4 e4 i4 E4 => ?_
  refine q_forT (K := K) (B := B) E4 (r1 H4) (lf_nats _) (fun i σ' H' => Ex K B H H' ∧ Env B σ' H' [some (.d (hD n ts)), some (.d (tD row)), none, none, some (.d (tD (mkT n ts (row.take i))))]) (fun H5 e5 E5 => ⟨(e3.trans e4).trans e5, E5⟩) ?_ ?_
  · rintro i d v σ5 H5 hd iv ⟨e5, E5⟩
    rw [List.getElem?_map] at hd
    obtain ⟨l, hl', rfl⟩ := Option.map_eq_some_iff.mp hd
    have ll := hl l (List.mem_of_getElem? hl')
    have E6 := E5.set (i := 3) (s := .d (nD l)) iv
    have tk : mkT n ts (row.take (i + 1)) = thn (mkT n ts (row.take i)) (ts.getD l []) := foldl_take _ _ _ _ hl'
    refine s_asg (K := K) E6 (ev_call (ds := [tD (mkT n ts (row.take i)), tD (ts.getD l [])]) (ea2 (ev_var (i := 4) rfl) (ev_op (ev_op (h0 H5) ev_int (o_ixT (j := 1) rfl)) (ev_var (i := 3) (s := .d (nD l)) rfl) (o_ixT (at_tD ll)))) ⟨n, _, _, rfl, rfl, mkT_isTn ho isTn_still fun x hx => hl x (List.mem_of_mem_take hx), ho.ok _ (getD_mem ll), ho.n8⟩) fun v7 H7 e7 i7 E7 => ?_
    refine ⟨⟨e5.trans e7, ?_⟩, e7.tk⟩
    rw [tk]
    exact E7.drop 3
  · rintro σ5 H5 ⟨e5, E5⟩
    rw [List.length_map, List.take_length] at E5
    exact s_ret (K := K) E5 (ev_var rfl) fun v H6 e6 => k v H6 (e5.trans e6)
end
end NB
/-! a turn's rings -/
namespace NB
def itr (t : Tn) : Nat → Nat → Nat
  | 0, x => x
  | k + 1, x => t.getD (itr t k x) 0
section
variable {n : Nat} {t : Tn}
theorem itr_add (i j x : Nat) : itr t (i + j) x = itr t i (itr t j x) := by
  induction i with
  | zero => rw [Nat.zero_add]; rfl
  | succ i ih => rw [Nat.succ_add]; show t.getD _ 0 = t.getD _ 0; rw [ih]
theorem itr_lt (ht : IsTn n t) {x : Nat} (hx : x < n) : ∀ k, itr t k x < n
  | 0 => hx
  | k + 1 => ht.at (itr_lt ht hx k)
theorem tn_inj (ht : IsTn n t) {x y : Nat} (hx : x < n) (hy : y < n) (e : t.getD x 0 = t.getD y 0) : x = y := by
  have hl := ht.len
  refine (List.getElem?_inj (i := x) (by omega) ht.nd).mp ?_
  rw [List.getD_eq_getElem?_getD, List.getD_eq_getElem?_getD, List.getElem?_eq_getElem (by omega), List.getElem?_eq_getElem (by omega)] at e
  rw [List.getElem?_eq_getElem (by omega), List.getElem?_eq_getElem (by omega)]
  exact congrArg some e
theorem itr_inj (ht : IsTn n t) {x y : Nat} (hx : x < n) (hy : y < n) : ∀ k, itr t k x = itr t k y → x = y
  | 0, e => e
  | k + 1, e => itr_inj ht hx hy k (tn_inj ht (itr_lt ht hx k) (itr_lt ht hy k) e)
/-- so many steps, none of them home -/
def NoH (t : Tn) (x k : Nat) : Prop := ∀ j, 0 < j → j < k → itr t j x ≠ x
theorem noH_nd (ht : IsTn n t) {x k : Nat} (hx : x < n) (h : NoH t x k) : ((List.range k).map fun i => itr t i x).Nodup := by
  refine nd_map List.nodup_range fun i hi j hj e => ?_
  have hi := List.mem_range.mp hi
  have hj := List.mem_range.mp hj
  rcases Nat.lt_trichotomy i j with q | q | q
  · exfalso
    refine h (j - i) (by omega) (by omega) ?_
    have e2 : itr t i (itr t (j - i) x) = itr t i x := by rw [← itr_add, show i + (j - i) = j by omega]; exact e.symm
    exact itr_inj ht (itr_lt ht hx _) hx i e2
  · exact q
  · exfalso
    refine h (i - j) (by omega) (by omega) ?_
    have e2 : itr t j (itr t (i - j) x) = itr t j x := by rw [← itr_add, show j + (i - j) = i by omega]; exact e
    exact itr_inj ht (itr_lt ht hx _) hx j e2
theorem noH_le (ht : IsTn n t) {x k : Nat} (hx : x < n) (h : NoH t x k) : k ≤ n := by
  have q := nd_len _ (List.range n) (noH_nd ht hx h) fun y hy => by
    obtain ⟨i, _, e⟩ := List.mem_map.mp hy
    rw [List.mem_range, ← e]
    exact itr_lt ht hx i
  simpa using q
structure IsOrd (t : Tn) (x k : Nat) : Prop where
  pos : 1 ≤ k
  home : itr t k x = x
  no : NoH t x k
theorem ord_uniq {x k l : Nat} (h : IsOrd t x k) (g : IsOrd t x l) : k = l := by
  rcases Nat.lt_trichotomy k l with q | q | q
  · exact absurd h.home (g.no k h.pos q)
  · exact q
  · exact absurd g.home (h.no l g.pos q)
theorem ord_ex (ht : IsTn n t) {x : Nat} (hx : x < n) : ∃ k, IsOrd t x k := by
  have key : ∀ d k, n + 1 - k = d → 1 ≤ k → NoH t x k → ∃ k, IsOrd t x k := by
    intro d
    induction d with
    | zero =>
      intro k hd h1 h
      have := noH_le ht hx h
      omega
    | succ d ih =>
      intro k hd h1 h
      by_cases e : itr t k x = x
      · exact ⟨k, h1, e, h⟩
      · refine ih (k + 1) (by omega) (by omega) fun j h0 hj => ?_
        by_cases q : j = k
        · rw [q]; exact e
        · exact h j h0 (by omega)
  exact key _ 1 rfl (Nat.le_refl _) fun j h0 h1 => by omega
noncomputable def ordf (t : Tn) (x : Nat) : Nat := open Classical in if h : ∃ k, IsOrd t x k then h.choose else 0
theorem ordf_ok (ht : IsTn n t) {x : Nat} (hx : x < n) : IsOrd t x (ordf t x) := by
  unfold ordf
  rw [dif_pos (ord_ex ht hx)]
  exact (ord_ex ht hx).choose_spec
theorem ordf_eq {x k : Nat} (h : IsOrd t x k) : ordf t x = k := by
  unfold ordf
  have e : ∃ k, IsOrd t x k := ⟨k, h⟩
  rw [dif_pos e]
  exact ord_uniq e.choose_spec h
noncomputable def cyc (t : Tn) (x : Nat) : List Nat := (List.range (ordf t x)).map fun i => itr t i x
noncomputable def rCy (t : Tn) (x y : Nat) : Bool := decide (y ∈ cyc t x)
theorem itr_mul {x k : Nat} (h : itr t k x = x) : ∀ m, itr t (m * k) x = x
  | 0 => by rw [Nat.zero_mul]; rfl
  | m + 1 => by rw [Nat.succ_mul, itr_add, h, itr_mul h m]
theorem itr_mod {x k : Nat} (h : itr t k x = x) (i : Nat) : itr t i x = itr t (i % k) x := by
  conv => lhs; rw [← Nat.mod_add_div i k, itr_add, Nat.mul_comm k, itr_mul h]
theorem mem_cyc (ht : IsTn n t) {x : Nat} (hx : x < n) (y : Nat) : y ∈ cyc t x ↔ ∃ i, itr t i x = y := by
  have o := ordf_ok ht hx
  constructor
  · intro h
    obtain ⟨i, _, e⟩ := List.mem_map.mp h
    exact ⟨i, e⟩
  · rintro ⟨i, e⟩
    refine List.mem_map.mpr ⟨i % ordf t x, List.mem_range.mpr (Nat.mod_lt _ o.pos), ?_⟩
    rw [← itr_mod o.home, e]
theorem cyc_lt (ht : IsTn n t) {x y : Nat} (hx : x < n) (h : y ∈ cyc t x) : y < n := by
  obtain ⟨i, e⟩ := (mem_cyc ht hx y).mp h
  rw [← e]
  exact itr_lt ht hx i
/-- a walk that starts outside the rings stays outside -/
theorem cyc_back (ht : IsTn n t) {x z i : Nat} (hx : x < n) (hz : z < n) (h : itr t i x ∈ cyc t z) : x ∈ cyc t z := by
  obtain ⟨j, e⟩ := (mem_cyc ht hz _).mp h
  have o := ordf_ok ht hx
  -- x = itr (m) (itr i x) for some m
  have q : itr t (i * ordf t x) x = x := itr_mul o.home i
  have le : i ≤ i * ordf t x := Nat.le_mul_of_pos_right _ o.pos
  refine (mem_cyc ht hz x).mpr ⟨(i * ordf t x - i) + j, ?_⟩
  rw [itr_add, e, ← itr_add, Nat.sub_add_cancel le, q]
end
/-! ### the list of those that start a new ring -/
def repF {α : Type} (r : α → α → Bool) (done : List α) (x : α) : List α := if done.any (fun y => r y x) = true then done else done ++ [x]
theorem reps_fold {α : Type} (r : α → α → Bool) : ∀ (l done : List α), l.foldl (repF r) done = done ++ reps r (l.filter fun x => !done.any fun y => r y x)
  | [], done => by simp [reps_nil]
  | x :: l, done => by
    rw [List.foldl_cons, reps_fold r l]
    unfold repF
    by_cases h : done.any (fun y => r y x) = true
    · rw [if_pos h, List.filter_cons_of_neg (by simp [h])]
    · rw [if_neg h, List.filter_cons_of_pos (by simp [h]), reps_cons, List.append_assoc]
      have e : (l.filter fun z => !(done ++ [x]).any fun y => r y z) = (l.filter fun z => !done.any fun y => r y z).filter fun y => !r x y := by
        rw [List.filter_filter]
        refine List.filter_congr fun z _ => ?_
        rw [List.any_append]
        simp [Bool.and_comm]
      rw [e]
      rfl
theorem reps_fold0 {α : Type} (r : α → α → Bool) (l : List α) : l.foldl (repF r) [] = reps r l := by
  rw [reps_fold, List.nil_append]
  congr 1
  exact List.filter_eq_self.mpr fun _ _ => rfl
end NB
set_option maxHeartbeats 2000000
/-! back, table, rings -/
namespace NB
open PySem PySem.Spec PyProof.Rows L2
section
variable {P : Program} {w : World} {K : PySem.W.Frag} {mg : Str → Option Value} {base : Heap} {B : Tbs} {c : Addr} {Γ : Ga} {σ : St} {H : Hp} {te ta tb : TE} {D : Ends} {tz : TS}
theorem map_set {α β : Type} (f : α → β) : ∀ (l : List α) (i : Nat) (x : α), (l.map f).set i (f x) = (l.set i x).map f
  | [], _, _ => rfl
  | _ :: _, 0, _ => rfl
  | a :: l, i + 1, x => by
    show f a :: (l.map f).set i (f x) = f a :: (l.set i x).map f
    rw [map_set f l i x]
/-- x[e] += 1 -/
theorem s_aug1 {i k : Nat} {p : Addr} {ns : List Nat} (E : Env B σ H Γ) (hi : Γ[i]? = some (some (.r p))) (L : Lo H p (ns.map nD)) (h : Ev K B te Γ H (.d (nD k))) (hk : k < ns.length) (hz : ns.length ≤ 1000)
    (kk : ∀ H', Mt K B H p H' → Lo H' p ((ns.set k (ns.getD k 0 + 1)).map nD) → D.nx σ H') : tAugS (tVar i) te (tC (.int 1)) (rGetL K) (ipI fun i j => i + j) rSetL D σ H := by
  refine ⟨_, E.slot hi, ?_⟩
  refine h σ H E (Ex.refl K H) _ fun y H2 e2 y2 => ?_
  cases (show Is H2 y (.int (k : Int)) from y2)
  obtain ⟨us, h1, h2⟩ := L.mono (row_nD _) e2
  have hu := isAll_nat_eq h2
  subst hu
  have at_ : (ns.map nV)[k]? = some (nV (ns.getD k 0)) := by
    rw [List.getElem?_map, List.getElem?_eq_getElem hk, List.getD_eq_getElem?_getD, List.getElem?_eq_getElem hk]
    rfl
  refine ⟨p, ns.map nV, (k : Int), nV (ns.getD k 0), rfl, rfl, .inl (.inl h1), by omega, by omega, by simpa using at_, _, _, rfl, rfl, ?_⟩
  refine ⟨p, ns.map nV, (k : Int), k, rfl, rfl, h1, ixN_nat (by simpa using hk), kk _ ⟨H2, _, e2, by rw [h1]; trivial, rfl⟩ ?_⟩
  have e3 : V.int ((ns.getD k 0 : Nat) + 1) = nV (ns.getD k 0 + 1) := by
    show V.int _ = V.int _
    congr 1
  rw [e3, map_set]
  exact ⟨_, upd_same, isAll_nat _⟩
/-! ### back -/
def CBack (ds : List PyData) (d : PyData) : Prop := ∃ n t, ds = [tD t] ∧ d = tD (bck t) ∧ IsTn n t ∧ n ≤ 8
def bckN (t : Tn) (k : Nat) : List Nat := (List.range t.length).map fun h => if t.idxOf h < k then t.idxOf h else 0
theorem bckN_zero (t : Tn) : bckN t 0 = List.replicate t.length 0 := by
  unfold bckN
  simp [List.map_const']
theorem bckN_full {n : Nat} {t : Tn} (ht : IsTn n t) : bckN t t.length = bck t := by
  unfold bckN bck
  refine List.map_congr_left fun h hh => ?_
  rw [if_pos]
  have : h ∈ t := ht.mem.mpr (by rw [← ht.len]; exact List.mem_range.mp hh)
  exact List.idxOf_lt_length_iff.mpr this
theorem bckN_step {n : Nat} {t : Tn} (ht : IsTn n t) {k : Nat} (hk : k < t.length) : (bckN t k).set (t.getD k 0) k = bckN t (k + 1) := by
  have hid : t.idxOf (t.getD k 0) = k := by
    have hm : t.getD k 0 ∈ t := getD_mem hk
    have hl := List.idxOf_lt_length_iff.mpr hm
    refine (List.getElem?_inj hl ht.nd).mp ?_
    rw [List.getElem?_eq_getElem hl, List.getElem?_eq_getElem hk, List.getElem_idxOf, List.getD_eq_getElem?_getD, List.getElem?_eq_getElem hk]
    rfl
  refine List.ext_getElem? fun i => ?_
  rw [List.getElem?_set]
  unfold bckN
  rw [List.length_map, List.length_range, List.getElem?_map, List.getElem?_map]
  by_cases hi : i < t.length
  · rw [List.getElem?_range hi]
    simp only [Option.map_some]
    by_cases e : t.getD k 0 = i
    · rw [if_pos e, if_pos (by omega)]
      subst e
      rw [hid, if_pos (by omega)]
    · rw [if_neg e]
      have ne : t.idxOf i ≠ k := fun z => e (by
        have hm : i ∈ t := ht.mem.mpr (by rw [← ht.len]; exact hi)
        rw [List.getD_eq_getElem?_getD, List.getElem?_eq_getElem hk]
        have := List.getElem_idxOf (List.idxOf_lt_length_iff.mpr hm)
        simpa [z] using this)
      by_cases q : t.idxOf i < k
      · rw [if_pos q, if_pos (by omega)]
      · rw [if_neg q, if_neg (by omega)]
  · rw [List.getElem?_eq_none (by simp; omega)]
    simp only [Option.map_none]
    split
    · split
      · omega
      · rfl
    · rfl
theorem pr_back (D : Dd K mg "back" s_back) (G : Bl mg) : Pr P w K mg base 1 "back" ["one"] (spD K B CBack) := by
  refine pr_of D sc_back (b1 fun _ _ _ _ _ _ _ => rfl) (spD_len (n := 1) fun ds d ⟨_, _, h, _⟩ => by rw [h]; rfl) fun f cdv A outer s H vs Q E hr h => ⟨_, (wt_back G hr).2, ?_⟩
  obtain ⟨tb, ds, d, hI, ⟨n, t, rfl, rfl, ht, n8⟩, k⟩ := h
  have E0 := env_start (N := N_back) tb (slsOk_data hI) (by rw [hI.len]; exact Nat.le_of_ble_eq_true rfl)
  have hz := ht.len
  unfold wt_back
  dsimp only [List.map]
  refine q_asgN (K := K) (ds := List.replicate t.length (nD 0)) E0 (en_rep (en_lst (ds := [nD 0]) (ea1 ev_int) (Nat.le_of_ble_eq_true rfl)) (fun H1 _ => (ev_lenT (ds := t.map nD) (ev_var (i := 0) rfl)).to (by rw [List.length_map])) (by omega)) fun p vs1 H1 hp e1 h1 i1 E1 => ?_
  have L1 : Lo H1 p ((bckN t 0).map nD) := ⟨vs1, h1, by rw [bckN_zero, List.map_replicate]; exact i1⟩
  refine s_forE (K := K) (B := B) (D := { nx := _, bk := _, ct := _, rt := _ }) E1 (ds := t.map nD) (ev_var (i := 0) rfl) (lf_nats _) (fun i σ' H' => Ex K B H H' ∧ Lo H' p ((bckN t i).map nD) ∧ Env B σ' H' [some (.d (tD t)), some (.r p), none, none]) (fun H3 e3 E3 => ⟨e1.trans e3, L1.mono (row_nD _) e3, E3⟩) ?_ ?_
  · rintro i d v σ3 H3 H4 hd e4 iv ⟨e3, L3, E3⟩
    have hi : i < t.length := by
      have := (List.getElem?_eq_some_iff.mp hd).1
      simpa using this
    rw [at_nD hi] at hd
    cases hd
    have E4 := ((E3.mono e4).set (i := 2) (s := .d (nD i)) (.int _)).set (i := 3) (s := .d (nD (t.getD i 0))) iv
    refine s_set (K := K) E4 (i := 1) rfl (L3.mono (row_nD _) e4) (row_nD _) (lf_nats _) (ev_var (i := 2) (s := .d (nD i)) rfl) rfl (fun H5 e5 => ev_var (i := 3) rfl) (by
      unfold bckN
      simp
      rw [hz]
      exact ht.at (by omega)) fun H5 m5 L5 => ?_
    rw [map_set, bckN_step ht hi] at L5
    exact ⟨⟨m5.ex (e3.trans e4) hp, L5, ((m5.env E4 (by simp [lfO, lfS, lf_tD, lf])).drop 2).drop 3⟩, e4.tk.trans m5.tk⟩
  · rintro σ3 H3 ⟨e3, L3, E3⟩
    rw [List.length_map, bckN_full ht] at L3
    refine s_ret (K := K) E3 ((ev_cb (ea1 (ev_varL (i := 1) rfl L3 (row_nD _))) ?_).to (e := tD (bck t)) rfl) fun v H6 e6 => k v H6 (e3.trans e6)
    exact fun vs1 H1' t1 e hv Q q => by
      cases hv with
      | cons h1 h2 =>
        cases h2
        cases (show Is H1' _ (.list ((bck t).map nD)) from h1) with
        | lst a b c => exact ⟨_, _, rfl, .inl ⟨.inl (.inl a), fun l hl => q _ _ (Ex.new hl) (.tup (.inl upd_same) (c.mono (Ex.new (K := K) (B := B) hl)))⟩⟩
/-! ### table -/
def cntT (n : Nat) (S : List Tn) : List Nat := (List.range (n + 1)).map fun m => (S.map fun t => (fixT t).length).count m
theorem cntT_nil (n : Nat) : cntT n [] = List.replicate (n + 1) 0 := by
  unfold cntT
  simp [List.map_const']
theorem fixT_le (t : Tn) : (fixT t).length ≤ t.length := by
  unfold fixT
  refine Nat.le_trans (List.length_filter_le _ _) ?_
  simp
theorem cntT_step (n : Nat) (S : List Tn) (t : Tn) (h : (fixT t).length ≤ n) : (cntT n S).set (fixT t).length ((cntT n S).getD (fixT t).length 0 + 1) = cntT n (S ++ [t]) := by
  have hl : (fixT t).length < (cntT n S).length := by unfold cntT; simp; omega
  refine List.ext_getElem? fun i => ?_
  rw [List.getElem?_set]
  by_cases e : (fixT t).length = i
  · rw [if_pos e, if_pos hl]
    rw [e] at hl
    unfold cntT at hl ⊢
    simp only [List.length_map, List.length_range] at hl
    rw [List.getElem?_map, List.getElem?_range hl, e, List.getD_eq_getElem?_getD, List.getElem?_map, List.getElem?_range hl]
    simp [e]
  · rw [if_neg e]
    unfold cntT
    by_cases hi : i < n + 1
    · rw [List.getElem?_map, List.getElem?_map, List.getElem?_range hi]
      simp [e]
    · rw [List.getElem?_eq_none (by simp; omega), List.getElem?_eq_none (by simp; omega)]
def CTab (ds es : List PyData) : Prop := ∃ n ts S, ds = [hD n ts] ∧ es = (cntT n S).map nD ∧ GOk n ts S
theorem pr_table_of (D : Dd K mg "table_of" s_table_of) (G : Bl mg) (Dm : PMem P w K mg base B) (Df : Pr P w K mg base 1 "stayers_of" ["turn"] (spD K B CFix)) : Pr P w K mg base 3 "table_of" ["house"] (spN K B CTab) := by
  refine pr_of D sc_table_of (b1 fun _ _ _ _ _ _ _ => rfl) (spN_len (n := 1) fun ds d ⟨_, _, _, h, _⟩ => by rw [h]; rfl) fun f cdv A outer s H vs Q E hr h => ⟨_, (wt_table_of G Dm Df hr).2, ?_⟩
  obtain ⟨tb, ds, es, hI, ⟨n, ts, S, rfl, rfl, hG⟩, k⟩ := h
  have E0 := env_start (N := N_table_of) tb (slsOk_data hI) (by rw [hI.len]; exact Nat.le_of_ble_eq_true rfl)
  have n8 := hG.ho.n8
  unfold wt_table_of
  dsimp only [List.map]
  refine q_asgN (K := K) (ds := List.replicate (n + 1) (nD 0)) E0 (en_rep (en_lst (ds := [nD 0]) (ea1 ev_int) (Nat.le_of_ble_eq_true rfl)) (fun H1 _ => ev_op (ev_op (ev_var (i := 0) (s := .d (hD n ts)) rfl) ev_int (o_ixT (j := 0) rfl)) ev_int o_I0) (by omega)) fun p vs1 H1 hp e1 h1 i1 E1 => ?_
  have L1 : Lo H1 p ((cntT n []).map nD) := ⟨vs1, h1, by rw [cntT_nil, List.map_replicate]; exact i1⟩
  refine q_forN (K := K) (B := B) (ds := S.map tD) E1 (en_call (ds := [hD n ts]) (ea1 (ev_var (i := 0) rfl)) ⟨n, ts, S, rfl, rfl, hG⟩) (fun q us i σ' H' => p ≠ q ∧ H' q = some (.lst us) ∧ IsAll H' us (S.map tD) ∧ Ex K B H H' ∧ Lo H' p ((cntT n (S.take i)).map nD) ∧ Env B σ' H' [some (.d (hD n ts)), some (.r p), none])
    (fun q us H2 hq e2 h2 i2 E2 => ⟨fun z => ?_, h2, i2, e1.trans e2, L1.mono (row_nD _) e2, E2⟩) (fun q us i σ' H' h => h.2.1) ?_ ?_
  · obtain ⟨us, h, _⟩ := L1
    rw [z, hq] at h
    cases h
  · rintro q us i v σ3 H3 hv ⟨ne, hq, i3, e3, L3, E3⟩
    obtain ⟨d, hd, iv⟩ := i3.at' hv
    rw [List.getElem?_map] at hd
    obtain ⟨t, ht, rfl⟩ := Option.map_eq_some_iff.mp hd
    have tt := hG.g.isT (List.mem_of_getElem? ht)
    have fl : (fixT t).length ≤ n := by have := fixT_le t; rw [tt.len] at this; exact this
    have E4 := E3.set (i := 2) (s := .d (tD t)) iv
    refine s_aug1 (K := K) E4 (i := 1) (k := (fixT t).length) rfl L3 ((ev_lenT (ds := (fixT t).map nD) (ev_call (ds := [tD t]) (ea1 (ev_var (i := 2) rfl)) ⟨n, t, rfl, rfl, tt, n8⟩)).to (by rw [List.length_map])) (by unfold cntT; simp; omega) (by unfold cntT; simp; omega) fun H5 m5 L5 => ?_
    have tk : S.take (i + 1) = S.take i ++ [t] := by rw [List.take_add_one, ht]; rfl
    rw [cntT_step n _ t fl, ← tk] at L5
    exact ⟨ne, m5.at hq (fix_lst (norow_of i3 (row_tD _))) ne.symm, m5.tk.isAll (lf_tDs _) i3, m5.ex e3 hp, L5, (m5.env E4 (by simp [lfO, lfS, lf_tD, lf_hD])).drop 2⟩
  · rintro q us σ3 H3 ⟨ne, hq, i3, e3, L3, E3⟩
    have hl : us.length = S.length := by rw [i3.len]; simp
    rw [hl, List.take_length] at L3
    obtain ⟨v, h1, h2⟩ := E3.at_ 1 _ rfl
    obtain ⟨ws, h4, i4⟩ := L3
    refine ⟨v, h1, ?_⟩
    rw [show v = .ref p from h2]
    exact k p ws H3 hp e3 h4 i4
def CTabl (ds : List PyData) (d : PyData) : Prop := ∃ n ts S, ds = [hD n ts] ∧ d = tD (cntT n S) ∧ GOk n ts S
theorem pr_table (D : Dd K mg "table" s_table) (G : Bl mg) (Dh : PHouse P w K mg base B) (Dt : Pr P w K mg base 3 "table_of" ["house"] (spN K B CTab)) : Pr P w K mg base 11 "table" ["house"] (spD K B CTabl) := by
  refine pr_of D sc_table (b1 fun _ _ _ _ _ _ _ => rfl) (spD_len (n := 1) fun ds d ⟨_, _, _, h, _⟩ => by rw [h]; rfl) fun f cdv A outer s H vs Q E hr h => ⟨_, (wt_table G Dh Dt hr).2, ?_⟩
  obtain ⟨tb, ds, d, hI, ⟨n, ts, S, rfl, rfl, hG⟩, k⟩ := h
  have E0 := env_start (N := N_table) tb (slsOk_data hI) (by rw [hI.len]; exact Nat.le_of_ble_eq_true rfl)
  refine q_drop (K := K) E0 (ev_call (ds := [hD n ts]) (ea1 (ev_var rfl)) ⟨n, ts, rfl, rfl, hG.ho⟩) fun H1 e1 E1 => ?_
  exact s_ret (K := K) E1 ((ev_tupN (en_call (ds := [hD n ts]) (ea1 (ev_var rfl)) ⟨n, ts, S, rfl, rfl, hG⟩) (row_nD _)).to (e := tD (cntT n S)) rfl) fun v H2 e2 => k v H2 (e1.trans e2)
/-! ### rings -/
/-- a, b = [..], e -/
theorem q_twoN {i j : Nat} {s : Sl} {ds : List PyData} (E : Env B σ H Γ) (ha : EvN K B ta Γ H ds) (nr : rowD ds = false) (hb : ∀ H1, Ex K B H H1 → Ev K B tb Γ H1 s)
    (k : ∀ p v H', H p = none → Ex K B H H' → Lo H' p ds → Env B ((σ.set i (some (.ref p))).set j (some v)) H' ((Γ.set i (some (.r p))).set j (some s)) → tz D ((σ.set i (some (.ref p))).set j (some v)) H') :
    tSeq (tAsg (tTup (tCons ta (tCons tb tNil))) (gTup K 2 (gCons (gName i) (gCons (gName j) gNil)))) tz D σ H :=
  ha σ H E (Ex.refl K H) _ fun p us H1 hp e1 h1 i1 => hb H1 e1 σ H1 (E.mono e1) (Ex.refl K H1) _ fun v H2 e2 v2 => by
    refine ⟨lenline (by simp), fun q hq => ?_⟩
    have e3 : Ex K B H2 (upd H2 q (.tup [.ref p, v])) := Ex.new hq
    refine ⟨_, _, rfl, .inl (.inl upd_same), rfl, _, _, rfl, _, _, rfl, rfl, ?_⟩
    exact k p v _ hp ((e1.trans e2).trans e3) ((Lo.mono ⟨us, h1, i1⟩ nr e2).mono nr e3) (((((E.mono e1).mono e2).mono e3).set (s := .r p) rfl).set (s := s) (v2.mono e3))
theorem o_neN {H : Hp} {i j : Nat} : Op2 K B rNe (.d (nD i)) (.d (nD j)) H (.d (.bool (!decide (i = j)))) := fun x y H1 t e hx hy Q q => by
  refine o_neI x y H1 t e hx hy Q fun v H2 e2 v2 => q v H2 e2 ?_
  have : decide ((i : Int) = (j : Int)) = decide (i = j) := by
    by_cases h : i = j
    · subst h; simp
    · rw [decide_eq_false h, decide_eq_false (by omega)]
  rw [← this]
  exact v2
noncomputable def ringsT (t : Tn) : List Nat := sortN ((reps (rCy t) (List.range t.length)).map (ordf t))
def CRin (ds es : List PyData) : Prop := ∃ n t, ds = [tD t] ∧ es = (ringsT t).map nD ∧ IsTn n t ∧ n ≤ 8
theorem pr_rings_of (D : Dd K mg "rings_of" s_rings_of) (G : Bl mg) : Pr P w K mg base 1 "rings_of" ["turn"] (spN K B CRin) := by
  refine pr_of D sc_rings_of (b1 fun _ _ _ _ _ _ _ => rfl) (spN_len (n := 1) fun ds d ⟨_, _, h, _⟩ => by rw [h]; rfl) fun f cdv A outer s H vs Q E hr h => ⟨_, (wt_rings_of G hr).2, ?_⟩
  obtain ⟨tb, ds, es, hI, ⟨n, t, rfl, rfl, ht, n8⟩, k⟩ := h
  have E0 := env_start (N := N_rings_of) tb (slsOk_data hI) (by rw [hI.len]; exact Nat.le_of_ble_eq_true rfl)
  have hz := ht.len
  unfold wt_rings_of
  dsimp only [List.map]
  refine q_parNN (K := K) (ds := []) (es := (List.range t.length).map nD) E0 (en_lst ea_nil (Nat.le_of_ble_eq_true rfl)) rfl (fun H1 _ => en_lstRg ((ev_lenT (ds := t.map nD) (ev_var (i := 0) rfl)).to (by rw [List.length_map])) (by omega)) fun pf pl H1 hpf hpl pfl e1 Lf Ll E1 => ?_
  refine q_while (K := K) (B := B) (fun m σ' H' => ∃ done left pl, pf ≠ pl ∧ Ex K B H H' ∧ Lo H' pf ((done.map (ordf t)).map nD) ∧ Lo H' pl (left.map nD) ∧ Env B σ' H' [some (.d (tD t)), some (.r pf), some (.r pl), none, none, none] ∧ done ++ reps (rCy t) left = reps (rCy t) (List.range t.length) ∧ (∀ x ∈ left, x < n) ∧ left.length + done.length ≤ n ∧ m = left.length) _
    ⟨[], _, pl, pfl, e1, Lf, Ll, E1, rfl, fun x hx => by rw [← hz]; exact List.mem_range.mp hx, by simp [hz], rfl⟩ ?_
  rintro m σ2 H2 ⟨done, left, pl, pfl, e2, Lf, Ll, E2, hrep, hlt, hlen, rfl⟩
  refine ⟨_, _, E2, et_tru (ev_varL (i := 2) rfl Ll (row_nD _)), fun hb H3 e3 E3 => ?_, fun hb H3 e3 E3 => ?_⟩
  · obtain ⟨x, rest, rfl⟩ : ∃ x rest, left = x :: rest := by
      cases left with
      | nil => simp at hb
      | cons a b => exact ⟨a, b, rfl⟩
    have hx : x < n := hlt x List.mem_cons_self
    have Ll3 := Ll.mono (row_nD _) e3
    have Lf3 := Lf.mono (row_nD _) e3
    have hd0 : ∀ H, Lo H pl ((x :: rest).map nD) → ∀ {a b c d e : Option Sl}, Ev K B (tOp (rIxL K) (tVar 2) (tC (.int 0))) [a, b, some (.r pl), c, d, e] H (.d (nD x)) := fun H L _ _ _ _ _ => ev_op (ev_varL (i := 2) rfl L (row_nD _)) ev_int (o_ixD (j := 0) rfl)
    refine q_twoN (K := K) (s := .d (nD (t.getD x 0))) (ds := [nD x]) E3 (en_lst (ds := [nD x]) (ea1 (hd0 _ Ll3)) (Nat.le_of_ble_eq_true rfl)) rfl (fun H4 e4 => ev_op (ev_var (i := 0) (s := .d (tD t)) rfl) (hd0 _ (Ll3.mono (row_nD _) e4)) (o_ixT (at_nD (by omega)))) fun pr v H4 hpr e4 Lr E4 => ?_
    have ner : ∀ {p : Addr} {l : List Nat}, Lo H3 p (l.map nD) → p ≠ pr := fun L z => by
      obtain ⟨us, h, _⟩ := L
      rw [z, hpr] at h
      cases h
    have nefr := ner Lf3
    have nelr := ner Ll3
    refine q_while (K := K) (B := B) (fun m σ' H' => ∃ k, Ex K B H H' ∧ Lo H' pf ((done.map (ordf t)).map nD) ∧ Lo H' pl ((x :: rest).map nD) ∧ Lo H' pr (((List.range k).map fun i => itr t i x).map nD) ∧ Env B σ' H' [some (.d (tD t)), some (.r pf), some (.r pl), some (.r pr), some (.d (nD (itr t k x))), none] ∧ 1 ≤ k ∧ NoH t x k ∧ m = n + 1 - k) _
      ⟨1, (e2.trans e3).trans e4, Lf3.mono (row_nD _) e4, Ll3.mono (row_nD _) e4, Lr, E4, Nat.le_refl _, fun j h0 h1 => by omega, rfl⟩ ?_
    rintro m σ5 H5 ⟨k', e5, Lf5, Ll5, Lr5, E5, k1, hno, rfl⟩
    have kn := noH_le ht hx hno
    have hix : itr t k' x < n := itr_lt ht hx k'
    have r0 : ((List.range k').map fun i => itr t i x)[0]? = some x := by
      rw [List.getElem?_map, List.getElem?_range (by omega)]
      rfl
    refine ⟨_, _, E5, et_test (ev_op (ev_var (i := 4) (s := .d (nD (itr t k' x))) rfl) (ev_op (ev_varL (i := 3) rfl Lr5 (row_nD _)) ev_int (o_ixD (j := 0) (d := nD x) (by rw [List.getElem?_map, r0]; rfl))) o_neN), fun hb H6 e6 E6 => ?_, fun hb H6 e6 E6 => ?_⟩
    · have hne : itr t k' x ≠ x := by simpa using hb
      have Lr6 := Lr5.mono (row_nD _) e6
      refine q_append (K := K) E6 (i := 3) rfl Lr6 (row_nD _) (lf_nats _) (by simp; omega) (ev_var (i := 4) (s := .d (nD (itr t k' x))) rfl) rfl fun H7 m7 L7 => ?_
      have E7 := m7.env E6 (by simp [lfO, lfS, lf_tD, lf])
      refine s_asg (K := K) E7 (i := 4) (ev_op (ev_var (i := 0) (s := .d (tD t)) rfl) (ev_var (i := 4) (s := .d (nD (itr t k' x))) rfl) (o_ixT (at_nD (by omega)))) fun v8 H8 e8 i8 E8 => ?_
      have hpr0 : H pr = none := (e2.trans e3).sm pr hpr
      have kn2 := noH_le ht hx (k := k' + 1) fun j h0 h1 => by
        by_cases q : j = k'
        · rw [q]; exact hne
        · exact hno j h0 (by omega)
      refine ⟨_, ?_, k' + 1, (m7.ex (e5.trans e6) hpr0).trans e8, ((m7.lo (Lf5.mono (row_nD _) e6) (row_nD _) (lf_nats _) nefr).mono (row_nD _) e8), ((m7.lo (Ll5.mono (row_nD _) e6) (row_nD _) (lf_nats _) nelr).mono (row_nD _) e8), ?_, E8, by omega, fun j h0 h1 => ?_, rfl⟩
      · omega
      · have e9 : ((List.range (k' + 1)).map fun i => itr t i x).map nD = ((List.range k').map fun i => itr t i x).map nD ++ [nD (itr t k' x)] := by
          rw [List.range_succ, List.map_append, List.map_append]
          rfl
        rw [← e9] at L7
        exact L7.mono (row_nD _) e8
      · by_cases q : j = k'
        · rw [q]; exact hne
        · exact hno j h0 (by omega)
    · have heq : itr t k' x = x := by simpa using hb
      have ho : IsOrd t x k' := ⟨k1, heq, hno⟩
      have hof := ordf_eq ho
      have hcy : cyc t x = (List.range k').map fun i => itr t i x := by unfold cyc; rw [hof]
      have Lr6 := Lr5.mono (row_nD _) e6
      rw [← hcy] at Lr6
      have clen : (cyc t x).length = k' := by rw [hcy]; simp
      refine q_append (K := K) E6 (i := 1) rfl (Lf5.mono (row_nD _) e6) (row_nD _) (lf_nats _) (by simp; simp at hlen; omega) ((ev_len (ev_varL (i := 3) rfl Lr6 (row_nD _))).to (e := nD (ordf t x)) (by rw [List.length_map, clen, hof])) rfl fun H7 m7 L7 => ?_
      have E7 := m7.env E6 (by simp [lfO, lfS, lf_tD, lf])
      have Lr7 := m7.lo Lr6 (row_nD _) (lf_nats _) nefr.symm
      have Ll7 := m7.lo (Ll5.mono (row_nD _) e6) (row_nD _) (lf_nats _) pfl.symm
      refine s_asgN (K := K) E7 (i := 2) (ds := ((x :: rest).filter fun y => !decide (y ∈ cyc t x)).map nD) (en_lc (enc := nD) (xs := x :: rest) (keep := fun y => !decide (y ∈ cyc t x)) (val := nD) (G' := fun y => [some (.d (tD t)), some (.r pf), some (.r pl), some (.r pr), some (.d (nD (itr t k' x))), some (.d (nD y))])
        (src_L (ev_varL (i := 2) rfl Ll7 (row_nD _))) (by simp at hlen ⊢; omega) (fun y hy => tgt_name (j := 5) (wipe1 5)) (fun y hy => (et_test (ev_op (ev_var (i := 5) (s := .d (nD y)) rfl) (ev_varL (i := 3) rfl Lr7 (row_nD _)) (o_notInD ((shp_nD _).ok (by decide)) ((shp_lN _).ok (by decide))))).to (by rw [any_nD])) (fun y hy _ => ⟨ev_var (i := 5) rfl, rfl⟩) (hom_int fun d ⟨x, _, _, e⟩ => ⟨_, e⟩)) fun pl' us H8 hpl' e8 h8 i8 E8 => ?_
      have Lf7 : Lo H7 pf (((done ++ [x]).map (ordf t)).map nD) := by
        rw [List.map_append, List.map_append]
        exact L7
      have xin : x ∈ cyc t x := (mem_cyc ht hx x).mpr ⟨0, rfl⟩
      have hpf0 := hpf
      refine ⟨_, ?_, done ++ [x], _, pl', fun z => ?_, (m7.ex (e5.trans e6) hpf).trans e8, Lf7.mono (row_nD _) e8, ⟨us, h8, i8⟩, (E8.drop 3).drop 4, ?_, fun y hy => hlt y ((List.mem_filter.mp hy).1), ?_, rfl⟩
      · rw [List.filter_cons_of_neg (by simp [xin])]
        have := List.length_filter_le (fun y => !decide (y ∈ cyc t x)) rest
        simp
        omega
      · obtain ⟨ws, h, _⟩ := Lf7
        rw [z, hpl'] at h
        cases h
      · rw [reps_cons] at hrep
        rw [← hrep, List.filter_cons_of_neg (by simp [xin]), List.append_assoc]
        rfl
      · rw [List.filter_cons_of_neg (by simp [xin])]
        have := List.length_filter_le (fun y => !decide (y ∈ cyc t x)) rest
        simp at hlen ⊢
        omega
  · have hl : left = [] := by
      cases left with
      | nil => rfl
      | cons a b => simp at hb
    subst hl
    rw [reps_nil, List.append_nil] at hrep
    refine s_retN (K := K) E3 ((en_cb (ea1 (ev_varL (i := 1) rfl (Lf.mono (row_nD _) e3) (row_nD _))) (o_srtL (by simp; simp at hlen; omega))).to (e := (ringsT t).map nD) (by unfold ringsT; rw [hrep])) fun p us H4 hp e4 h4 i4 => k p us H4 ((e2.trans e3).sm p hp) ((e2.trans e3).trans e4) h4 i4
def CRins (ds : List PyData) (d : PyData) : Prop := ∃ n ts t, ds = [hD n ts, tD t] ∧ d = tD (ringsT t) ∧ HOkN n ts ∧ IsTn n t
theorem pr_rings (D : Dd K mg "rings" s_rings) (G : Bl mg) (Dh : PHouse P w K mg base B) (Dt : PNTurn P w K mg base B) (Df : Pr P w K mg base 1 "rings_of" ["turn"] (spN K B CRin)) : Pr P w K mg base 11 "rings" ["house", "turn"] (spD K B CRins) := by
  refine pr_of D sc_rings (b2 fun _ _ _ _ _ _ _ _ => rfl) (spD_len (n := 2) fun ds d ⟨_, _, _, h, _⟩ => by rw [h]; rfl) fun f cdv A outer s H vs Q E hr h => ⟨_, (wt_rings G Dh Dt Df hr).2, ?_⟩
  obtain ⟨tb, ds, d, hI, ⟨n, ts, t, rfl, rfl, hG, ht⟩, k⟩ := h
  have E0 := env_start (N := N_rings) tb (slsOk_data hI) (by rw [hI.len]; exact Nat.le_of_ble_eq_true rfl)
  refine q_drop (K := K) E0 (ev_call (ds := [hD n ts]) (ea1 (ev_var rfl)) ⟨n, ts, rfl, rfl, hG⟩) fun H1 e1 E1 => ?_
  refine q_drop (K := K) E1 (ev_call (ds := [hD n ts, tD t]) (ea2 (ev_var rfl) (ev_var rfl)) ⟨n, ts, t, rfl, rfl, hG, ht⟩) fun H2 e2 E2 => ?_
  exact s_ret (K := K) E2 ((ev_tupN (en_call (ds := [tD t]) (ea1 (ev_var rfl)) ⟨n, t, rfl, rfl, ht, hG.n8⟩) (row_nD _)).to (e := tD (ringsT t)) rfl) fun v H3 e3 => k v H3 ((e1.trans e2).trans e3)
end
end NB
set_option maxHeartbeats 2000000
/-! lots_of -/
namespace NB
open PySem PySem.Spec PyProof.Rows L2
/-- what lots_of's body reads; tl: leads(one) -/
abbrev BTL (P : Program) (w : World) (K : PySem.W.Frag) (tl : TE) : TS :=
  tSeq (tPar 2 3 (tCons (tCB (rLstOf K) (tCons (tVar 0) tNil)) (tCons (tLst tNil) tNil)))
    (tSeq (tWhile (tTru K (tVar 2))
      (tSeq (tAsg (tTup (tCons (fun σ H Q => tDisp [(tOp (rIxL K) (tVar 2) (tC (.int 0)), tC (.bl true))] σ H Q ∨ tDisX P w (tOp (rIxL K) (tVar 2) (tC (.int 0))) σ H Q) (tCons (tLst (tCons (tOp (rIxL K) (tVar 2) (tC (.int 0))) tNil)) tNil))) (gTup K 2 (gCons (gName 4) (gCons (gName 5) gNil))))
        (tSeq (tWhile (tTru K (tVar 5))
          (tSeq (tAsg (tBM0 K "list" rPop (tVar 5)) (gName 6))
            (tFor (iList K tl) (gName 7)
              (tIfS (tTest (tOp (fun x y H Q => rNotInK x y H Q ∨ rNotInX P w x y H Q) (tVar 7) (tVar 4)))
                (tSeq (tAsg (tC (.bl true)) (gSub (tVar 4) (tVar 7) fun o i v H Q => tSetK o i v H Q ∨ tSetX P w o i v H Q)) (tDrop (tBM K "list" rAppend (tVar 5) (tCons (tVar 7) tNil))))
                tNext))))
          (tSeq (tDrop (tBM K "list" rAppend (tVar 3) (tCons (tCB (rTupOf K) (tCons (tCB (fun xs H Q => rSrtI K xs H Q ∨ rSrtT K P w xs H Q) (tCons (tVar 4) tNil)) tNil)) tNil)))
            (tAsg (tLc (iList K (tVar 2)) (gName 6) (tTest (tOp (fun x y H Q => rNotInK x y H Q ∨ rNotInX P w x y H Q) (tVar 6) (tVar 4))) (tVar 6) [6]) (gName 2))))))
      (tRet (tCB (fun xs H Q => rSrtT K P w xs H Q ∨ rSrtN K xs H Q) (tCons (tVar 3) tNil))))
/-- dicts whose keys are data of a kind -/
structure KX (P : Program) (w : World) (K : PySem.W.Frag) (B : Tbs) {α : Type} [DecidableEq α] (enc : α → PyData) (DK : Hp → Addr → List α → Prop) (srt : List α → List α) (ok : α → Prop) : Prop where
  lfE : ∀ a, lf (enc a) = true
  rowE : ∀ l : List α, rowD (l.map enc) = false
  rowT : ∀ l : List (List α), rowD (l.map fun m => .tuple (m.map enc)) = false
  hom : Hom fun d => ∃ a : α, d = enc a
  plain : ∀ {H p ks}, DK H p ks → Plain (H p)
  keep : ∀ {H H' p ks}, DK H p ks → Tk H H' → (∀ o, H p = some o → Fix o → H' p = some o) → DK H' p ks
  dis : ∀ {te : TE} {Γ : Ga} {σ : St} {H : Hp} {a : α} {Q : VK}, Env B σ H Γ → (∀ H1, Ex K B H H1 → Ev K B te Γ H1 (.d (enc a))) → (∀ p H', H p = none → Ex K B H H' → DK H' p [a] → Q (.ref p) H') → tDisp [(te, tC (.bl true))] σ H Q ∨ tDisX P w te σ H Q
  notin : ∀ {te : TE} {Γ : Ga} {H : Hp} {i : Nat} {p : Addr} {a : α} {ks : List α}, Γ[i]? = some (some (.r p)) → DK H p ks → Ev K B te Γ H (.d (enc a)) → EvT K B (tTest (tOp (fun x y H Q => rNotInK x y H Q ∨ rNotInX P w x y H Q) te (tVar i))) Γ H (!decide (a ∈ ks))
  set : ∀ {D : Ends} {tz : TS} {te : TE} {Γ : Ga} {σ : St} {H : Hp} {i : Nat} {p : Addr} {a : α} {ks : List α}, Env B σ H Γ → Γ[i]? = some (some (.r p)) → DK H p ks → (∀ H1, Ex K B H H1 → Ev K B te Γ H1 (.d (enc a))) → a ∉ ks → ks.length < 999 →
    (∀ H', Mt K B H p H' → DK H' p (ks ++ [a]) → tz D σ H') → tSeq (tAsg (tC (.bl true)) (gSub (tVar i) te fun o i v H Q => tSetK o i v H Q ∨ tSetX P w o i v H Q)) tz D σ H
  srtE : ∀ {Γ : Ga} {H : Hp} {i : Nat} {p : Addr} {ks : List α}, Γ[i]? = some (some (.r p)) → DK H p ks → ks.length ≤ 1000 → (∀ a ∈ ks, ok a) → EvN K B (tCB (fun xs H Q => rSrtI K xs H Q ∨ rSrtT K P w xs H Q) (tCons (tVar i) tNil)) Γ H ((srt ks).map enc)
  srtP : ∀ l m : List α, l.Perm m → srt l = srt m
  srtL : ∀ l : List α, (srt l).Perm l
  has : ∀ {H p ks}, DK H p ks → ∃ o, H p = some o
open Classical in
noncomputable def rRT {α : Type} (leads : α → List α) (x y : α) : Bool := decide (RT (fun a b => b ∈ leads a) x y)
theorem rRT_iff {α : Type} {leads : α → List α} {x y : α} : rRT leads x y = true ↔ RT (fun a b => b ∈ leads a) x y := by
  simp [rRT]
noncomputable def cls {α : Type} (S : List α) (leads : α → List α) (x : α) : List α := S.filter (rRT leads x)
theorem Clo.isCls {α : Type} [DecidableEq α] {leads : α → List α} {x : α} {S found : List α} (hS : S.Nodup) (C : Clo leads x S found []) : found.Perm (cls S leads x) := by
  refine perm_mem C.fN (hS.sublist List.filter_sublist) fun y => ?_
  unfold cls
  rw [List.mem_filter, C.done, rRT_iff]
  exact ⟨fun h => ⟨C.fS y ((C.done y).mpr h), h⟩, fun h => h.2⟩
section
variable {P : Program} {w : World} {K : PySem.W.Frag} {B : Tbs} {α : Type} [DecidableEq α] {enc : α → PyData} {DK : Hp → Addr → List α → Prop} {srt : List α → List α} {ok : α → Prop} {Γ : Ga} {σ : St} {H H' : Hp} {D : Ends} {tz : TS}
/-- a, b = a new object, a new list -/
theorem q_twoXN {i j : Nat} {ta tb : TE} {ds : List PyData} {Rx : Hp → Addr → Prop} (E : Env B σ H Γ) (mono : ∀ {H H' p}, Rx H p → Ex K B H H' → Rx H' p) (some_ : ∀ {H p}, Rx H p → ∃ o, H p = some o)
    (ha : ∀ Q : VK, (∀ p H1, H p = none → Ex K B H H1 → Rx H1 p → Q (.ref p) H1) → ta σ H Q) (nr : rowD ds = false) (hb : ∀ H1, Ex K B H H1 → EvN K B tb Γ H1 ds)
    (k : ∀ p q H', H p = none → H q = none → p ≠ q → Ex K B H H' → Rx H' p → Lo H' q ds → Env B ((σ.set i (some (.ref p))).set j (some (.ref q))) H' ((Γ.set i (some (.r p))).set j (some (.r q))) → tz D ((σ.set i (some (.ref p))).set j (some (.ref q))) H') :
    tSeq (tAsg (tTup (tCons ta (tCons tb tNil))) (gTup K 2 (gCons (gName i) (gCons (gName j) gNil)))) tz D σ H :=
  ha _ fun p H1 hp e1 x1 => hb H1 e1 σ H1 (E.mono e1) (Ex.refl K H1) _ fun q us H2 hq e2 h2 i2 => by
    refine ⟨lenline (by simp), fun r hr => ?_⟩
    have e3 : Ex K B H2 (upd H2 r (.tup [.ref p, .ref q])) := Ex.new hr
    refine ⟨_, _, rfl, .inl (.inl upd_same), rfl, _, _, rfl, _, _, rfl, rfl, ?_⟩
    refine k p q _ hp (e1.sm q hq) (fun z => ?_) ((e1.trans e2).trans e3) (mono (mono x1 e2) e3) (Lo.mono ⟨us, h2, i2⟩ nr e3) (((((E.mono e1).mono e2).mono e3).set (s := .r p) rfl).set (s := .r q) rfl)
    obtain ⟨o, h⟩ := some_ x1
    rw [z, hq] at h
    cases h
abbrev tupE (enc : α → PyData) (l : List α) : PyData := .tuple (l.map enc)
theorem lf_encs (kx : KX P w K B enc DK srt ok) (l : List α) : lfAll (l.map enc) = true := lfAll_of fun d hd => by
  obtain ⟨a, _, e⟩ := List.mem_map.mp hd
  rw [← e]
  exact kx.lfE a
theorem lf_tups (kx : KX P w K B enc DK srt ok) (l : List (List α)) : lfAll (l.map (tupE enc)) = true := lfAll_of fun d hd => by
  obtain ⟨a, _, e⟩ := List.mem_map.mp hd
  rw [← e]
  show lfAll (a.map enc) = true
  exact lf_encs kx a
structure LS (K : PySem.W.Frag) (B : Tbs) (enc : α → PyData) (DK : Hp → Addr → List α → Prop) (H0 : Hp) (pf pl pd ph : Addr) (lots : List (List α)) (left found here : List α) (H : Hp) : Prop where
  ex : Ex K B H0 H
  f : Lo H pf (lots.map (tupE enc))
  l : Lo H pl (left.map enc)
  d : DK H pd found
  h : Lo H ph (here.map enc)
theorem LS.mono {H0 : Hp} {pf pl pd ph : Addr} {lots : List (List α)} {left found here : List α} (kx : KX P w K B enc DK srt ok) (s : LS K B enc DK H0 pf pl pd ph lots left found here H) (e : Ex K B H H') : LS K B enc DK H0 pf pl pd ph lots left found here H' :=
  ⟨s.ex.trans e, s.f.mono (kx.rowT _) e, s.l.mono (kx.rowE _) e, kx.keep s.d e.tk fun o => e.fx pd o, s.h.mono (kx.rowE _) e⟩
structure LN (H0 : Hp) (pf pl pd ph : Addr) : Prop where
  nf : H0 pf = none
  nd : H0 pd = none
  nh : H0 ph = none
  fl : pf ≠ pl
  fd : pf ≠ pd
  fh : pf ≠ ph
  ld : pl ≠ pd
  lh : pl ≠ ph
  dh : pd ≠ ph
theorem lots_law (kx : KX P w K B enc DK srt ok) {tl : TE} {f : Addr} {things S : List α} {leads : α → List α} {v : V} (hS : ∀ x ∈ things, x ∈ S) (nS : S.Nodup) (hok : ∀ x ∈ S, ok x) (hcl : ∀ x ∈ S, ∀ y ∈ leads x, y ∈ S) (sN : S.length ≤ 120) (tN : things.length ≤ 120) (hv : Is H v (.list (things.map enc))) (tbo : TbOk B H)
    (hl : ∀ a ∈ S, ∀ Γ' : Ga, Γ'[1]? = some (some (.r f)) → Γ'[6]? = some (some (.d (enc a))) → ∀ H', Ex K B H H' → EvN K B tl Γ' H' ((leads a).map enc))
    {RF : List PyData → Prop} (hfin : ∀ (Γ : Ga) (σ : St) (H' : Hp) (pf : Addr), Env B σ H' Γ → Γ[3]? = some (some (.r pf)) → Lo H' pf (((reps (rRT leads) things).map fun x => srt (cls S leads x)).map (tupE enc)) → ∀ Q : VK, (∀ p us es H2, H' p = none → Ex K B H' H2 → H2 p = some (.lst us) → IsAll H2 us es → RF es → Q (.ref p) H2) → tCB (fun xs H Q => rSrtT K P w xs H Q ∨ rSrtN K xs H Q) (tCons (tVar 3) tNil) σ H' Q)
    {Q : VK} (k : ∀ p us es H', H p = none → Ex K B H H' → H' p = some (.lst us) → IsAll H' us es → RF es → Q (.ref p) H') : BTL P w K tl { nx := fun _ H' => Q .non H', rt := Q } (L2.start N_lots_of [v, .ref f]) H := by
  have E0 : Env B (L2.start N_lots_of [v, .ref f]) H [some (.d (.list (things.map enc))), some (.r f), none, none, none, none, none, none] :=
    env_start (N := N_lots_of) (ss := [.d (.list (things.map enc)), .r f]) tbo (.cons hv (.cons rfl .nil)) (Nat.le_of_ble_eq_true rfl)
  have cp : ∀ H1, Ex K B H H1 → EvN K B (tCB (rLstOf K) (tCons (tVar 0) tNil)) [some (.d (.list (things.map enc))), some (.r f), none, none, none, none, none, none] H1 (things.map enc) := fun H1 e1 => en_cb (ea1 (ev_var (i := 0) (s := .d (.list (things.map enc))) rfl)) fun vs1 H1' t1 e hv Q q => by
    cases hv with
    | cons h1 h2 =>
      cases h2
      cases (show Is H1' _ (.list (things.map enc)) from h1) with
      | lst a b c => exact ⟨_, _, rfl, .inl (.inl (.inl a)), fun l hl => q l _ _ hl (Ex.new hl) upd_same (c.mono (Ex.new (K := K) (B := B) hl))⟩
  refine q_parNN (K := K) (ds := things.map enc) (es := []) E0 (cp H (Ex.refl K H)) (kx.rowE _) (fun H1 _ => en_lst ea_nil (Nat.le_of_ble_eq_true rfl)) fun pl pf H1 hpl hpf hne e1 Ll Lf E1 => ?_
  refine q_while (K := K) (B := B) (fun m σ' H' => ∃ (dn left : List α) (pl : Addr), pf ≠ pl ∧ Ex K B H H' ∧ Lo H' pf ((dn.map fun x => srt (cls S leads x)).map (tupE enc)) ∧ Lo H' pl (left.map enc) ∧ Env B σ' H' [none, some (.r f), some (.r pl), some (.r pf), none, none, none, none] ∧ dn ++ reps (rRT leads) left = reps (rRT leads) things ∧ (∀ x ∈ left, x ∈ S) ∧ left.length + dn.length ≤ 120 ∧ m = left.length) _
    ⟨[], things, pl, hne.symm, e1, Lf, Ll, E1.drop 0, rfl, hS, by simpa using tN, rfl⟩ ?_
  rintro m σ2 H2 ⟨dn, left, pl, pfl, e2, Lf, Ll, E2, hrep, hlt, hlen, rfl⟩
  refine ⟨_, _, E2, et_tru (ev_varL (i := 2) rfl Ll (kx.rowE _)), fun hb H3 e3 E3 => ?_, fun hb H3 e3 E3 => ?_⟩
  · obtain ⟨x, rest, rfl⟩ : ∃ x rest, left = x :: rest := by
      cases left with
      | nil => simp at hb
      | cons a b => exact ⟨a, b, rfl⟩
    have hx : x ∈ S := hlt x List.mem_cons_self
    have Ll3 := Ll.mono (kx.rowE _) e3
    have Lf3 := Lf.mono (kx.rowT _) e3
    have hd0 : ∀ H, Lo H pl ((x :: rest).map enc) → Ev K B (tOp (rIxL K) (tVar 2) (tC (.int 0))) [none, some (.r f), some (.r pl), some (.r pf), none, none, none, none] H (.d (enc x)) := fun H L => ev_op (ev_varL (i := 2) rfl L (kx.rowE _)) ev_int (o_ixD (j := 0) rfl)
    refine q_twoXN (K := K) (i := 4) (j := 5) (Rx := fun H p => DK H p [x]) (ds := [enc x]) E3 (fun {H H' p} h e => kx.keep h e.tk fun o => e.fx p o) (fun {H p} h => ?_) (fun Q q => kx.dis E3 (fun H4 e4 => hd0 H4 (Ll3.mono (kx.rowE _) e4)) q) (by have := kx.rowE [x]; exact this) (fun H4 e4 => en_lst (ds := [enc x]) (ea1 (hd0 H4 (Ll3.mono (kx.rowE _) e4))) (Nat.le_of_ble_eq_true rfl)) fun pd ph H4 hpd hph pdh e4 hD Lh E4 => ?_
    · exact kx.has h
    have ner : ∀ {p q : Addr} {ds : List PyData}, Lo H3 p ds → H3 q = none → p ≠ q := fun L hq z => by
      obtain ⟨us, h, _⟩ := L
      rw [z, hq] at h
      cases h
    have NN : LN H pf pl pd ph := ⟨hpf, (e2.trans e3).sm _ hpd, (e2.trans e3).sm _ hph, pfl, ner Lf3 hpd, ner Lf3 hph, ner Ll3 hpd, ner Ll3 hph, pdh⟩
    have C0 : Clo leads x S [x] [x] := Clo.start hx
    have s4 : LS K B enc DK H pf pl pd ph (dn.map fun x => srt (cls S leads x)) (x :: rest) [x] [x] H4 := ⟨(e2.trans e3).trans e4, Lf3.mono (kx.rowT _) e4, Ll3.mono (kx.rowE _) e4, hD, Lh⟩
    refine q_while (K := K) (B := B) (fun m σ' H' => ∃ found here, Clo leads x S found here ∧ LS K B enc DK H pf pl pd ph (dn.map fun x => srt (cls S leads x)) (x :: rest) found here H' ∧ Env B σ' H' [none, some (.r f), some (.r pl), some (.r pf), some (.r pd), some (.r ph), none, none] ∧ m = 2 * (S.length - found.length) + here.length) _ ⟨_, _, C0, s4, E4, rfl⟩ ?_
    rintro m σ5 H5 ⟨found, here, C, s5, E5, rfl⟩
    have hz := C.hlen
    have fz := C.flen
    refine ⟨_, _, E5, et_tru (ev_varL (i := 5) rfl s5.h (kx.rowE _)), fun hb H6 e6 E6 => ?_, fun hb H6 e6 E6 => ?_⟩
    · obtain ⟨hs, one, rfl⟩ : ∃ hs one, here = hs ++ [one] := by
        rcases List.eq_nil_or_concat here with z | ⟨hs, one, z⟩
        · rw [z] at hb; simp at hb
        · exact ⟨hs, one, by rw [z, List.concat_eq_append]⟩
      have C1 := C.pop
      have oS : one ∈ S := C1.fS one C1.one
      have s6 := s5.mono kx e6
      have L6 := s6.h
      rw [List.map_append] at L6
      refine q_pop (K := K) E6 (i := 5) (j := 6) rfl L6 (by have := lf_encs kx (hs ++ [one]); rw [List.map_append] at this; exact this) fun v7 H7 m7 L7 i7 => ?_
      have E7 := (m7.env E6 (by simp [lfO, lfS, lf, lf_encs kx])).set (i := 6) (s := .d (enc one)) i7
      have s7 : LS K B enc DK H pf pl pd ph (dn.map fun x => srt (cls S leads x)) (x :: rest) found hs H7 :=
        ⟨m7.ex s6.ex NN.nh, m7.lo s6.f (kx.rowT _) (lf_tups kx _) NN.fh, m7.lo s6.l (kx.rowE _) (lf_encs kx _) NN.lh, kx.keep s6.d m7.tk fun o h ff => m7.at h ff NN.dh, L7⟩
      refine s_forN (K := K) (B := B) (te := tl) (ds := (leads one).map enc) E7 (hl one oS _ rfl rfl H7 s7.ex) (fun p us i σ' H' => p ≠ pd ∧ p ≠ ph ∧ H' p = some (.lst us) ∧ IsAll H' us ((leads one).map enc) ∧ ∃ found' here', CloI leads x S one ((leads one).take i) found' here' ∧ LS K B enc DK H pf pl pd ph (dn.map fun x => srt (cls S leads x)) (x :: rest) found' here' H' ∧ Env B σ' H' [none, some (.r f), some (.r pl), some (.r pf), some (.r pd), some (.r ph), some (.d (enc one)), none] ∧
        2 * (S.length - found'.length) + here'.length + 1 ≤ 2 * (S.length - found.length) + (hs ++ [one]).length) ?_ (fun p us i σ' H' h => h.2.2.1) ?_ ?_
      · refine fun p us H8 hp e8 h8 i8 E8 => ⟨fun z => ?_, fun z => ?_, h8, i8, found, hs, C1, s7.mono kx e8, E8, by simp; omega⟩
        · obtain ⟨o, h⟩ := kx.has s7.d
          rw [← z, hp] at h
          cases h
        · obtain ⟨o, h, _⟩ := s7.h
          rw [← z, hp] at h
          cases h
      · rintro p us i v8 σ8 H8 hvi ⟨pnd, pnh, hp8, i8, found', here', C8, s8, E8, hm⟩
        obtain ⟨d, hd, iv⟩ := i8.at' hvi
        rw [List.getElem?_map] at hd
        obtain ⟨y, hy, rfl⟩ := Option.map_eq_some_iff.mp hd
        have ym : y ∈ leads one := List.mem_of_getElem? hy
        have yS := hcl one oS y ym
        have take : (leads one).take (i + 1) = (leads one).take i ++ [y] := by rw [List.take_add_one, hy]; rfl
        have E9 := E8.set (i := 7) (s := .d (enc y)) iv
        have fz8 := C8.flen
        have hz8 := C8.hlen
        refine s_if (K := K) E9 (kx.notin (i := 4) (p := pd) rfl s8.d (ev_var (i := 7) rfl)) (fun hb H10 e10 E10 => ?_) fun hb H10 e10 E10 => ?_
        · have hn : y ∉ found' := by simpa using hb
          have C10 := C8.add hn ym yS
          rw [← take] at C10
          have fz10 := C10.flen
          have hz10 := C10.hlen
          have s10 := s8.mono kx e10
          simp only [List.length_append, List.length_cons, List.length_nil] at fz10 hz10 hm
          refine kx.set E10 (i := 4) rfl s10.d (fun H' _ => ev_var (i := 7) rfl) hn (by omega) fun H11 m11 d11 => ?_
          have E11 := m11.env E10 (by simp [lfO, lfS, lf, lf_encs kx, kx.lfE])
          have h11 := m11.lo s10.h (kx.rowE _) (lf_encs kx _) NN.dh.symm
          refine s_append (K := K) E11 (i := 5) rfl h11 (kx.rowE _) (lf_encs kx _) (by rw [List.length_map]; omega) (ev_var (i := 7) (s := .d (enc y)) rfl) (kx.lfE y) fun H12 m12 L12 => ?_
          have E12 := m12.env E11 (by simp [lfO, lfS, lf, lf_encs kx, kx.lfE])
          refine ⟨pnd, pnh, m12.at (m11.at (e10.fx p _ hp8 (fix_lst (norow_of i8 (kx.rowE _)))) (fix_lst (norow_of i8 (kx.rowE _))) pnd) (fix_lst (norow_of i8 (kx.rowE _))) pnh, m12.tk.isAll (lf_encs kx _) (m11.tk.isAll (lf_encs kx _) (i8.mono e10)), _, _, C10, ⟨m12.ex (m11.ex s10.ex NN.nd) NN.nh, m12.lo (m11.lo s10.f (kx.rowT _) (lf_tups kx _) NN.fd) (kx.rowT _) (lf_tups kx _) NN.fh, m12.lo (m11.lo s10.l (kx.rowE _) (lf_encs kx _) NN.ld) (kx.rowE _) (lf_encs kx _) NN.lh, kx.keep d11 m12.tk fun o h ff => m12.at h ff NN.dh, by rw [List.map_append]; exact L12⟩, E12.drop 7, ?_⟩
          simp only [List.length_append, List.length_cons, List.length_nil]
          omega
        · have hy' : y ∈ found' := by simpa using hb
          refine ⟨pnd, pnh, e10.fx p _ hp8 (fix_lst (norow_of i8 (kx.rowE _))), i8.mono e10, found', here', ?_, s8.mono kx e10, E10.drop 7, hm⟩
          rw [take]
          exact C8.skip hy'
      · rintro p us σ8 H8 ⟨pnd, pnh, hp8, i8, found', here', C8, s8, E8, hm⟩
        have hlen8 : us.length = (leads one).length := by rw [i8.len]; simp
        rw [hlen8, List.take_length] at C8
        exact ⟨_, by omega, found', here', C8.fin fun y hy => hy, s8, E8.drop 6, rfl⟩
    · have hh : here = [] := by
        cases here with
        | nil => rfl
        | cons a b => simp at hb
      subst hh
      have hp := C.isCls nS
      have s6 := s5.mono kx e6
      have eS : srt found = srt (cls S leads x) := kx.srtP _ _ hp
      refine q_append (K := K) E6 (i := 3) rfl s6.f (kx.rowT _) (lf_tups kx _) (by rw [List.length_map, List.length_map]; simp at hlen; omega) (ev_tupN ((kx.srtE (i := 4) rfl s6.d (by omega) fun a ha => hok a (C.fS a ha)).to (d := (srt found).map enc) (e := (srt (cls S leads x)).map enc) (by rw [eS])) (kx.rowE _)) (show lfAll _ = true from lf_encs kx _) fun H7 m7 L7 => ?_
      have E7 := m7.env E6 (by simp [lfO, lfS, lf, lf_encs kx, kx.lfE])
      have d7 : DK H7 pd found := kx.keep s6.d m7.tk fun o h ff => m7.at h ff NN.fd.symm
      have l7 := m7.lo s6.l (kx.rowE _) (lf_encs kx _) NN.fl.symm
      have xin : x ∈ found := C.x0f
      refine s_asgN (K := K) E7 (i := 2) (ds := ((x :: rest).filter fun y => !decide (y ∈ found)).map enc) (en_lc (enc := enc) (xs := x :: rest) (keep := fun y => !decide (y ∈ found)) (val := enc) (G' := fun y => [none, some (.r f), some (.r pl), some (.r pf), some (.r pd), some (.r ph), some (.d (enc y)), none])
        (src_L (ev_varL (i := 2) rfl l7 (kx.rowE _))) (by simp at hlen ⊢; omega) (fun y hy => tgt_name (j := 6) (wipe1 6)) (fun y hy => kx.notin (i := 4) (p := pd) rfl d7 (ev_var (i := 6) rfl)) (fun y hy _ => ⟨ev_var (i := 6) rfl, kx.lfE y⟩) ?_) fun pl' us H8 hpl' e8 h8 i8 E8 => ?_
      · rcases kx.hom with hh | hh
        · exact .inl fun d ⟨a, _, _, e⟩ => hh d ⟨a, e⟩
        · exact .inr fun d ⟨a, _, _, e⟩ => hh d ⟨a, e⟩
      have Lf7 : Lo H7 pf (((dn ++ [x]).map fun x => srt (cls S leads x)).map (tupE enc)) := by
        rw [List.map_append, List.map_append]
        exact L7
      have fl : (x :: rest).filter (fun y => !decide (y ∈ found)) = rest.filter fun y => !rRT leads x y := by
        rw [List.filter_cons_of_neg (by simp [xin])]
        refine List.filter_congr fun y _ => ?_
        congr 1
        by_cases q : y ∈ found
        · rw [decide_eq_true q, rRT_iff.mpr ((C.done y).mp q)]
        · rw [decide_eq_false q]
          cases e : rRT leads x y with
          | false => rfl
          | true => exact absurd ((C.done y).mpr (rRT_iff.mp e)) q
      have flen : (rest.filter fun y => !rRT leads x y).length ≤ rest.length := List.length_filter_le _ _
      refine ⟨_, ?_, dn ++ [x], _, pl', fun z => ?_, (m7.ex s6.ex NN.nf).trans e8, Lf7.mono (kx.rowT _) e8, ⟨us, h8, i8⟩, (E8.drop 4).drop 5, ?_, fun y hy => hlt y (List.mem_filter.mp hy).1, ?_, rfl⟩
      · rw [fl]
        simp
        omega
      · obtain ⟨ws, h, _⟩ := Lf7
        rw [z, hpl'] at h
        cases h
      · rw [reps_cons] at hrep
        rw [← hrep, fl, List.append_assoc]
        rfl
      · rw [fl]
        simp at hlen ⊢
        omega
  · have hl0 : left = [] := by
      cases left with
      | nil => rfl
      | cons a b => simp at hb
    subst hl0
    rw [reps_nil, List.append_nil] at hrep
    rw [hrep] at Lf
    exact hfin _ _ H3 pf E3 rfl (Lf.mono (kx.rowT _) e3) _ fun p us es H4 hp e4 h4 i4 r => k p us es H4 ((e2.trans e3).sm p hp) ((e2.trans e3).trans e4) h4 i4 r
end
end NB
set_option maxHeartbeats 2000000
/-! dicts keyed by tuples | by ints, for lots_of -/
namespace NB
open PySem PySem.Spec PyProof.Rows L2
section
variable {P : Program} {w : World} {K : PySem.W.Frag} {B : Tbs}
theorem dec_sw {p : Prop} {i j : Decidable p} {Q : Bool → Prop} (h : Q (!@decide p i)) : Q (!@decide p j) := by
  rw [Subsingleton.elim j i]
  exact h
theorem kx_T : KX P w K B tD (DkX P w) sortL (fun t => t ≠ []) where
  lfE := lf_tD
  rowE := row_tD
  rowT := fun l => hom_row (P := fun d => ∃ t, d = PyData.tuple t) (.inr fun d ⟨t, e⟩ => by rw [e]; rfl) fun d hd => by
    obtain ⟨t, _, e⟩ := List.mem_map.mp hd
    exact ⟨_, e.symm⟩
  hom := .inr fun d ⟨a, e⟩ => by rw [e]; rfl
  plain := fun h => h.plain
  keep := fun h t e => h.keep t e
  dis := fun E h k => .inr (r_disX E h k)
  notin := fun {te Γ H i p a ks} hi hd h σ H1 E e Q q => h σ H1 E e _ fun v H2 e2 v2 => by
    obtain ⟨b, rfl, r⟩ := is_key v2
    refine ⟨_, (E.mono e2).slot hi, ?_⟩
    obtain ⟨xs, h1, h2, h3⟩ := hd.mono (e.trans e2)
    refine .inr ⟨b, keyN a, p, xs, rfl, rfl, r, h1, h2, _, rfl, ?_⟩
    rw [memK_keyN h3]
    exact dec_sw (Q := fun b => Q b H2) (q H2 e2)
  set := fun {D tz te Γ σ H i p a ks} E hi hd h hn hz k => by
    refine ⟨_, E.slot hi, h H (Ex.refl K H) σ H E (Ex.refl K H) _ fun v H1 e1 v1 => ?_⟩
    obtain ⟨b, rfl, r⟩ := is_key v1
    have hd1 := hd.mono e1
    have pl := hd1.plain
    obtain ⟨xs, h1, h2, h3⟩ := hd1
    have hl : xs.length = ks.length := by simpa using congrArg List.length h3
    refine .inr ⟨p, b, keyN a, xs, rfl, rfl, rfl, r, h1, h2, by rw [memK_keyN h3]; simpa using hn, ltline (by omega), k _ ⟨H1, _, e1, pl, rfl⟩ ⟨_, upd_same, fun x hx => ?_, by rw [List.map_append, List.map_append, h3]; rfl⟩⟩
    rcases List.mem_append.mp hx with z | z
    · exact tk_upd pl _ _ (h2 x z)
    · rw [List.mem_singleton.mp z]
      exact tk_upd pl _ _ r
  srtE := fun {Γ H i p ks} hi hd hz hne σ H1 E e Q q => by
    refine ⟨_, E.slot hi, ?_⟩
    obtain ⟨xs, h1, h2, h3⟩ := hd.mono e
    have hl : xs.length = ks.length := by simpa using congrArg List.length h3
    refine .inr ⟨p, rfl, .inr ⟨xs, h1, h2, by omega, fun x hx => ?_, fun ys r hp hs hr => ?_⟩⟩
    · have hm : x.1 ∈ ks.map keyN := by rw [← h3]; exact List.mem_map.mpr ⟨x, hx, rfl⟩
      obtain ⟨t, ht, e⟩ := List.mem_map.mp hm
      exact ⟨_, e.symm, fun z => hne t ht (List.map_eq_nil_iff.mp z)⟩
    · obtain ⟨ts', hp', i2⟩ := isAll_perm hp ks (keys_is h2 h3)
      have es := sortL_uniq hp' (pw_tups i2 hs)
      rw [es] at i2
      exact q r ys _ hr (Ex.new hr) upd_same (i2.mono (Ex.new (K := K) (B := B) hr))
  srtP := fun l m h => sortL_uniq ((sortL_perm l).trans h) (sortL_le l)
  srtL := sortL_perm
  has := fun ⟨xs, h, _⟩ => ⟨_, h⟩
/-! ints -/
def kN (n : Nat) : Key := Sum.inl (n : Int)
def DkN (H : Hp) (p : Addr) (ks : List Nat) : Prop := ∃ kvs : List (Key × V), H p = some (.dK kvs) ∧ kvs.map (·.1) = ks.map kN
theorem kN_inj {a b : Nat} (h : kN a = kN b) : a = b := by
  have : (a : Int) = b := Sum.inl.inj h
  omega
theorem DkN.keep {H H' : Hp} {p : Addr} {ks : List Nat} (h : DkN H p ks) (e : ∀ o, H p = some o → Fix o → H' p = some o) : DkN H' p ks := by
  obtain ⟨kvs, h1, h2⟩ := h
  exact ⟨kvs, e _ h1 fix_dK, h2⟩
theorem valV_keys {ks : List Nat} : ∀ {kvs : List (Key × V)}, kvs.map (·.1) = ks.map kN → ∀ a, (valV kvs (kN a)).isSome = decide (a ∈ ks) := by
  intro kvs h a
  rw [← valV_any]
  induction ks generalizing kvs with
  | nil =>
    cases kvs with
    | nil => rfl
    | cons x y => cases h
  | cons k ks ih =>
    cases kvs with
    | nil => cases h
    | cons x y =>
      have h1 : x.1 = kN k := by simpa using (List.cons.inj h).1
      rw [List.any_cons, ih (List.cons.inj h).2, h1]
      by_cases e : a = k
      · subst e; simp
      · have : ¬ kN k = kN a := fun z => e (kN_inj z).symm
        simp [this, e]
theorem kx_N : KX P w K B nD DkN sortN (fun _ => True) where
  lfE := fun _ => rfl
  rowE := row_nD
  rowT := fun l => hom_row (P := fun d => ∃ t, d = PyData.tuple t) (.inr fun d ⟨t, e⟩ => by rw [e]; rfl) fun d hd => by
    obtain ⟨t, _, e⟩ := List.mem_map.mp hd
    exact ⟨_, e.symm⟩
  hom := .inl fun d ⟨a, e⟩ => by rw [e]; rfl
  plain := fun ⟨kvs, h, _⟩ => by rw [h]; trivial
  keep := fun h t e => h.keep e
  dis := fun {te Γ σ H a Q} E h k => .inl fun p hp => by
    have e1 : Ex K B H (upd H p (.dK [])) := Ex.new hp
    refine h _ e1 σ _ (E.mono e1) (Ex.refl K _) _ fun v H2 e2 v2 => ?_
    cases (show Is H2 v (.int (a : Int)) from v2)
    have hp2 : H2 p = some (.dK []) := e2.fx p _ upd_same fix_dK
    refine ⟨hp2, [(kN a, .bl true)], rfl, Nat.le_of_ble_eq_true rfl, k p _ hp ((e1.trans e2).mut hp (by rw [hp2]; trivial)) ⟨_, upd_same, rfl⟩⟩
  notin := fun {te Γ H i p a ks} hi hd h σ H1 E e Q q => h σ H1 E e _ fun v H2 e2 v2 => by
    cases (show Is H2 v (.int (a : Int)) from v2)
    refine ⟨_, (E.mono e2).slot hi, ?_⟩
    obtain ⟨kvs, h1, h2⟩ := hd.keep fun o => (e.trans e2).fx p o
    refine .inl ⟨p, kvs, kN a, rfl, rfl, h1, _, rfl, ?_⟩
    rw [valV_keys h2]
    exact dec_sw (Q := fun b => Q b H2) (q H2 e2)
  set := fun {D tz te Γ σ H i p a ks} E hi hd h hn hz k => by
    refine ⟨_, E.slot hi, h H (Ex.refl K H) σ H E (Ex.refl K H) _ fun v H1 e1 v1 => ?_⟩
    cases (show Is H1 v (.int (a : Int)) from v1)
    obtain ⟨kvs, h1, h2⟩ := hd.keep fun o => e1.fx p o
    have hl : kvs.length = ks.length := by simpa using congrArg List.length h2
    have hm : (kvs.any fun kv => decide (kv.1 = kN a)) = false := by
      rw [valV_any, valV_keys h2]
      simpa using hn
    refine .inl ⟨p, kvs, kN a, rfl, rfl, h1, ltline (by omega), k _ ⟨H1, _, e1, by rw [h1]; trivial, rfl⟩ ⟨_, upd_same, ?_⟩⟩
    unfold putK
    rw [if_neg (by rw [hm]; decide), List.map_append, List.map_append, h2]
    rfl
  srtE := fun {Γ H i p ks} hi hd hz _ σ H1 E e Q q => by
    refine ⟨_, E.slot hi, ?_⟩
    obtain ⟨kvs, h1, h2⟩ := hd.keep fun o => e.fx p o
    refine .inl ⟨p, ks.map fun n : Nat => (n : Int), rfl, by simpa using hz, .inr (.inr ⟨kvs, h1, ?_⟩), fun ns r hp hs hr => ?_⟩
    · have e2 : kvs.map (fun kv => kV kv.1) = (kvs.map (·.1)).map kV := by rw [List.map_map]; rfl
      rw [e2, h2, List.map_map, List.map_map]
      rfl
    · obtain ⟨t', rfl, hp'⟩ := int_perm hp
      rw [int_sorted hp' hs, ← nats_int]
      exact q r _ _ hr (Ex.new hr) upd_same (isAll_nat _)
  srtP := fun l m h => sortN_uniq ((sortN_perm l).trans h) (sortN_le l)
  srtL := sortN_perm
  has := fun ⟨kvs, h, _⟩ => ⟨_, h⟩
end
end NB
set_option maxHeartbeats 2000000
/-! the lots of halls, of pairs, the likes -/
namespace NB
open PySem PySem.Spec PyProof.Rows L2
def LamOf (B : Tbs) (P : Addr) (q : Str) : Prop := (P = B.po ∧ q = "parts_of.<locals>.<lambda>") ∨ (P = B.pl ∧ q = "pair_lots_of.<locals>.<lambda>") ∨ (P = B.lk ∧ q = "likes_of.<locals>.<lambda>")
section
variable {P : Program} {w : World} {K : PySem.W.Frag} {mg : Str → Option Value} {base : Heap} {B : Tbs} {c : Addr} {Γ : Ga} {σ : St} {H H' : Hp} {te ta tb : TE} {D : Ends} {tz : TS}
theorem LamOf.tab {P : Addr} {q : Str} (h : LamOf B P q) (t : TbOk B H) : LamX.TabS H P q := by
  rcases h with ⟨rfl, rfl⟩ | ⟨rfl, rfl⟩ | ⟨rfl, rfl⟩
  · exact t.po
  · exact t.pl
  · exact t.lk
theorem ex_lam {P c' : Addr} {q : Str} (ne : TbNe B) (h : LamOf B P q) (m : LamMade H H' P q c') : Ex K B H H' := by
  obtain ⟨ps0, hP⟩ := m.tab0
  have old : ∀ b o, H b = some o → (∀ qs, o ≠ .tbl qs) → H' b = some o := fun b o e n => by
    have n1 : b ≠ P := fun z => by
      rw [z, hP] at e
      exact n ps0 (Option.some.inj e).symm
    by_cases n2 : b = c'
    · rw [n2] at e ⊢
      rcases m.old with z | z
      · rw [z] at e; cases e
      · rw [z] at e
        rw [m.code, e]
    · rw [m.same b n1 n2]
      exact e
  have tbs : ∀ Q qs, Q ≠ P → H Q = some (.tbl qs) → H' Q = some (.tbl qs) := fun Q qs hq e => by
    have n2 : Q ≠ c' := fun z => by
      rw [z] at e
      rcases m.old with y | y
      · rw [y] at e; cases e
      · rw [y] at e
        exact codeO_ne qs (Option.some.inj e)
    rw [m.same Q hq n2]
    exact e
  have cod : ∀ Q r, Q ≠ P → LamX.TabS H Q r → LamX.TabS H' Q r := fun Q r hq ⟨qs, h1, h2, h3⟩ => ⟨qs, tbs Q qs hq h1, h2, fun pos cv hc => by
    obtain ⟨c0, e1, e2⟩ := h3 pos cv hc
    exact ⟨c0, e1, old _ _ e2 fun qs => codeO_ne qs⟩⟩
  have gen : ∀ Q, Q ≠ P → GxR.TabG H Q → GxR.TabG H' Q := fun Q hq ⟨qs, h1, h2⟩ => ⟨qs, tbs Q qs hq h1, h2⟩
  refine ⟨fun b o e f => old b o e f.1, fun k => ?_, fun a s ns k => ?_, fun b e => ?_⟩
  · rcases h with ⟨rfl, rfl⟩ | ⟨rfl, rfl⟩ | ⟨rfl, rfl⟩
    · exact ⟨gen _ ne.it.2.1 k.it, gen _ ne.wp.1 k.wp, m.tab, cod _ _ ne.po.1.symm k.pl, cod _ _ ne.po.2.1.symm k.lk⟩
    · exact ⟨gen _ ne.it.2.2.1 k.it, gen _ ne.wp.2.1 k.wp, cod _ _ ne.po.1 k.po, m.tab, cod _ _ ne.po.2.2.symm k.lk⟩
    · exact ⟨gen _ ne.it.2.2.2 k.it, gen _ ne.wp.2.2 k.wp, cod _ _ ne.po.2.1 k.po, cod _ _ ne.po.2.2 k.pl, m.tab⟩
  · obtain ⟨⟨i, z, r, k1, hi⟩, k2⟩ := k
    exact ⟨⟨i, z, r, old _ _ k1 (fun _ z => nomatch z), hi⟩, seq_keep k2 (norow_ints ns) fun b o e f => old b o e f.1⟩
  · by_cases hb : b = P
    · rw [hb] at e
      obtain ⟨qs, h1, _⟩ := m.tab
      rw [h1] at e
      cases e
    · by_cases hc : b = c'
      · rw [hc, m.code] at e
        cases e
      · rw [m.same b hb hc] at e
        exact e
/-- leads(one) -/
theorem en_lead {f c' : Addr} {q : Str} {N1 : List Str} {tb : TE} {d hd : PyData} {hv : V} {es : List PyData} (h1 : Γ[1]? = some (some (.r f))) (h6 : Γ[6]? = some (some (.d d))) (hc : H c' = some (LamX.CodeO c' q)) (hi : Is H hv hd) (hn : 2 ≤ N1.length)
    (hb : EvN K B tb ([some (.d d), some (.d hd)] ++ List.replicate (N1.length - 2) none) H es) : EvN K B (tLead f c' q 1 [some hv] N1 (tCons (tVar 6) tNil) tb) Γ H es := fun σ H1 E e Q qq => by
  obtain ⟨v, k1, k2⟩ := E.at_ 6 _ h6
  refine ⟨E.slot h1, v, k1, v, rfl, e.fx _ _ hc fix_ext, ?_⟩
  refine hb _ H1 ⟨E.tb, ?_, fun i g hg => ?_⟩ e Q qq
  · unfold NdefX.startF
    simp
    omega
  · match i, hg with
    | 0, hg => cases hg; exact ⟨v, rfl, k2⟩
    | 1, hg => cases hg; exact ⟨hv, rfl, hi.mono e⟩
    | i + 2, hg =>
      have hg : (List.replicate (N1.length - 2) (none : Option Sl))[i]? = some (some g) := hg
      rw [List.getElem?_replicate] at hg
      split at hg <;> cases hg
theorem s_retG {Pt : Addr} {q : Str} {N1 Ng : List Str} {js : List Nat} {ta : TA} {tb t0 : TE} {BT : TE → TS} {ds : List PyData} (E : Env B σ H Γ) (h0 : EvN K B t0 Γ H ds)
    (k : ∀ p us H1, H p = none → Ex K B H H1 → H1 p = some (.lst us) → IsAll H1 us ds → LamX.TabS H1 Pt q ∧ ∀ f c' H2, LamMade H1 H2 Pt q c' → BT (tLead f c' q 1 (js.map (NdefX.slotAt σ)) N1 ta tb) { nx := fun _ H' => D.rt .non H', rt := D.rt } (L2.start Ng [.ref p, .ref f]) H2) :
    tRet (tGive Pt q N1 Ng js ta tb t0 BT) D σ H := h0 σ H E (Ex.refl K H) _ k
def leadH (ts : List Tn) (x : Nat) : List Nat := ts.map fun t => t.getD x 0
noncomputable def partsN (n : Nat) (ts : List Tn) : List (List Nat) := sortL ((reps (rRT (leadH ts)) (List.range n)).map fun x => sortN (cls (List.range n) (leadH ts) x))
theorem reps_mem {α : Type} {r : α → α → Bool} {l : List α} {x : α} (h : x ∈ reps r l) : x ∈ l := reps_sub _ l (Nat.le_refl _) x h
theorem reps_len {α : Type} (r : α → α → Bool) : ∀ (k : Nat) (l : List α), l.length ≤ k → (reps r l).length ≤ l.length
  | 0, l, h => by
    have : l = [] := List.length_eq_zero_iff.mp (by omega)
    subst this
    simp [reps_nil]
  | k + 1, [], h => by simp [reps_nil]
  | k + 1, x :: l, h => by
    rw [reps_cons, List.length_cons, List.length_cons]
    have h1 := List.length_filter_le (fun y => !r x y) l
    have h2 := reps_len r k (l.filter fun y => !r x y) (by simp at h; omega)
    omega
theorem cls_self {α : Type} {S : List α} {leads : α → List α} {x : α} (h : x ∈ S) : x ∈ cls S leads x := List.mem_filter.mpr ⟨h, rRT_iff.mpr .refl⟩
abbrev PParts (P : Program) (w : World) (K : PySem.W.Frag) (mg : Str → Option Value) (base : Heap) (B : Tbs) : Prop := Pr P w K mg base 3 "parts_of" ["house"] (spN K B fun ds es => ∃ n ts, ds = [hD n ts] ∧ es = (partsN n ts).map tD ∧ HOkN n ts)
theorem pr_parts_of (D : DdT K mg "parts_of" s_parts_of c) (G : Bl mg) (TB : LamX.TabB base mg c B.po) (ne : TbNe B) {g : Addr} {oc : Value} {od : Option Addr} {dV kV doc pm cdv ct : Value} {an : Option Addr} {osl : Array (Option Value)} (L : LotsAt K mg "lots_of" s_lots_of ["things", "leads"] g oc od dV kV doc pm cdv ct an osl) : PParts P w K mg base B := by
  refine pr_ofT D sc_parts_of (b1 fun _ _ _ _ _ _ _ => rfl) (spN_len (n := 1) fun ds d ⟨_, _, h, _⟩ => by rw [h]; rfl) fun f A outer s H vs Q E hr h => ⟨_, (wt_parts_of TB L G hr).2, ?_⟩
  obtain ⟨tb, ds, es, hI, ⟨n, ts, rfl, rfl, ho⟩, k⟩ := h
  have E0 := env_start (N := N_parts_of) tb (slsOk_data hI) (by rw [hI.len]; exact Nat.le_of_ble_eq_true rfl)
  unfold wt_parts_of
  dsimp only [List.map]
  obtain ⟨hv, hv1, hv2⟩ := E0.at_ 0 (.d (hD n ts)) rfl
  refine s_retG (K := K) E0 (en_lstRg (n := n) (ev_op (ev_var (i := 0) (s := .d (hD n ts)) rfl) ev_int (o_ixT (j := 0) rfl)) (by have := ho.n8; omega)) fun p us H1 hp e1 h1 i1 => ?_
  have hPq : LamOf B B.po "parts_of.<locals>.<lambda>" := .inl ⟨rfl, rfl⟩
  refine ⟨hPq.tab (e1.tb tb), fun f' c' H2 LM => ?_⟩
  have e2 : Ex K B H1 H2 := ex_lam ne hPq LM
  rw [show ([0].map (NdefX.slotAt (L2.start N_parts_of vs))) = [some hv] from congrArg (fun z => [z]) (NdefX.slotAt_of hv1)]
  have hlT : Is H2 (.ref p) (.list ((List.range n).map nD)) := Is.mono e2 (.lst h1 (norow_of i1 (row_nD _)) i1)
  have n8 := ho.n8
  refine lots_law (kx_N (P := P) (w := w) (K := K) (B := B)) (S := List.range n) (things := List.range n) (leads := leadH ts) (fun x h => h) List.nodup_range (fun _ _ => trivial) (fun x hx y hy => ?_) (by simp; omega) (by simp; omega) hlT (e2.tb (e1.tb tb)) (fun a ha Γ' g1 g6 H3 e3 => ?_)
    (RF := fun es => es = (partsN n ts).map tD) (fun Γ' σ' H3 pf E3 g3 L3 Q' q' => ?_) fun p' us' es' H3 hp' e3 h3 i3 r3 => k p' us' H3 ((e1.trans e2).sm _ hp') ((e1.trans e2).trans e3) h3 (r3 ▸ i3)
  · obtain ⟨t, ht, rfl⟩ := List.mem_map.mp hy
    exact List.mem_range.mpr ((ho.ok t ht).at (List.mem_range.mp hx))
  · refine en_lead (d := nD a) (hd := hD n ts) g1 g6 (e3.fx _ _ LM.code fix_ext) (Is.mono e3 (Is.mono e2 (Is.mono e1 hv2))) (by decide) ?_
    have al := List.mem_range.mp ha
    refine (en_lcY (K := K) (B := B) (enc := tD) (xs := ts) (val := fun t => nD (t.getD a 0)) (G' := fun t => [some (.d (nD a)), some (.d (hD n ts)), some (.d (tD t))]) (src_T (ds := ts.map tD) (ev_op (ev_var (i := 1) (s := .d (hD n ts)) rfl) ev_int (o_ixT (j := 1) rfl))) (by have := ho.t6; omega) (fun t ht => tgt_name (j := 2) (wipe1 2)) (fun t ht => ⟨ev_op (ev_var (i := 2) (s := .d (tD t)) rfl) (ev_var (i := 0) (s := .d (nD a)) rfl) (o_ixT (at_nD (by rw [(ho.ok t ht).len]; exact al))), rfl⟩) (hom_int fun d ⟨x, _, e⟩ => ⟨_, e⟩)).to ?_
    unfold leadH
    rw [List.map_map]
    rfl
  · have hz := reps_len (rRT (leadH ts)) _ (List.range n) (Nat.le_refl _)
    refine en_cb (K := K) (B := B) (ss := [.d (.list ((((reps (rRT (leadH ts)) (List.range n)).map fun x => sortN (cls (List.range n) (leadH ts) x))).map tD))]) (ds := (partsN n ts).map tD) (ea1 (ev_varL (i := 3) g3 L3 (row_tD _))) (fun vs1 H1' t1 e hv Q q => .inl (o_srtTs (by simp at hz ⊢; omega) (fun t ht => ?_) vs1 H1' t1 e hv Q q)) σ' H3 E3 (Ex.refl K H3) Q' fun p us H4 hp e4 h4 i4 => q' p us _ H4 hp e4 h4 i4 rfl
    obtain ⟨x, hx, rfl⟩ := List.mem_map.mp ht
    intro z
    have := (sortN_perm (cls (List.range n) (leadH ts) x)).mem_iff.mpr (cls_self (reps_mem hx))
    rw [z] at this
    cases this
abbrev CParts (ds : List PyData) (d : PyData) : Prop := ∃ n ts, ds = [hD n ts] ∧ d = .tuple ((partsN n ts).map tD) ∧ HOkN n ts
theorem pr_parts (D : Dd K mg "parts" s_parts) (G : Bl mg) (Dh : PHouse P w K mg base B) (Dp : PParts P w K mg base B) : Pr P w K mg base 11 "parts" ["house"] (spD K B CParts) := by
  refine pr_of D sc_parts (b1 fun _ _ _ _ _ _ _ => rfl) (spD_len (n := 1) fun ds d ⟨_, _, h, _⟩ => by rw [h]; rfl) fun f cdv A outer s H vs Q E hr h => ⟨_, (wt_parts G Dh Dp hr).2, ?_⟩
  obtain ⟨tb, ds, d, hI, ⟨n, ts, rfl, rfl, ho⟩, k⟩ := h
  have E0 := env_start (N := N_parts) tb (slsOk_data hI) (by rw [hI.len]; exact Nat.le_of_ble_eq_true rfl)
  refine q_drop (K := K) E0 (ev_call (ds := [hD n ts]) (ea1 (ev_var rfl)) ⟨n, ts, rfl, rfl, ho⟩) fun H1 e1 E1 => ?_
  exact s_ret (K := K) E1 (ev_tupN (en_call (ds := [hD n ts]) (ea1 (ev_var rfl)) ⟨n, ts, rfl, rfl, ho⟩) (row_tD _)) fun v H2 e2 => k v H2 (e1.trans e2)
abbrev CTrans (ds : List PyData) (d : PyData) : Prop := ∃ n ts, ds = [hD n ts] ∧ d = .bool (decide ((partsN n ts).length = 1)) ∧ HOkN n ts
theorem o_eqN {H : Hp} {i j : Nat} : Op2 K B rEq (.d (nD i)) (.d (nD j)) H (.d (.bool (decide (i = j)))) := fun x y H1 t e hx hy Q q => by
  refine o_eqI x y H1 t e hx hy Q fun v H2 e2 v2 => q v H2 e2 ?_
  have : decide ((i : Int) = (j : Int)) = decide (i = j) := by
    by_cases h : i = j
    · subst h; simp
    · rw [decide_eq_false h, decide_eq_false (by omega)]
  rw [← this]
  exact v2
theorem pr_is_transitive (D : Dd K mg "is_transitive" s_is_transitive) (G : Bl mg) (Dh : PHouse P w K mg base B) (Dp : PParts P w K mg base B) : Pr P w K mg base 11 "is_transitive" ["house"] (spD K B CTrans) := by
  refine pr_of D sc_is_transitive (b1 fun _ _ _ _ _ _ _ => rfl) (spD_len (n := 1) fun ds d ⟨_, _, h, _⟩ => by rw [h]; rfl) fun f cdv A outer s H vs Q E hr h => ⟨_, (wt_is_transitive G Dh Dp hr).2, ?_⟩
  obtain ⟨tb, ds, d, hI, ⟨n, ts, rfl, rfl, ho⟩, k⟩ := h
  have E0 := env_start (N := N_is_transitive) tb (slsOk_data hI) (by rw [hI.len]; exact Nat.le_of_ble_eq_true rfl)
  refine q_drop (K := K) E0 (ev_call (ds := [hD n ts]) (ea1 (ev_var rfl)) ⟨n, ts, rfl, rfl, ho⟩) fun H1 e1 E1 => ?_
  exact s_ret (K := K) E1 (ev_op ((ev_len (EvN.ev (en_call (ds := [hD n ts]) (ea1 (ev_var rfl)) ⟨n, ts, rfl, rfl, ho⟩) (row_tD _))).to (e := nD (partsN n ts).length) (by rw [List.length_map])) (ev_int (i := 1)) (o_eqN (j := 1))) fun v H2 e2 => k v H2 (e1.trans e2)
/-! ### pairs -/
def allP (n : Nat) : List (List Nat) := (List.range n).flatMap fun a => (List.range n).map fun b => [a, b]
theorem allP_mem {n : Nat} {p : List Nat} : p ∈ allP n ↔ p.length = 2 ∧ ∀ x ∈ p, x < n := by
  unfold allP
  rw [List.mem_flatMap]
  constructor
  · rintro ⟨a, ha, h⟩
    obtain ⟨b, hb, rfl⟩ := List.mem_map.mp h
    rw [List.mem_range] at ha hb
    exact ⟨rfl, fun x hx => by
      rcases List.mem_cons.mp hx with e | e
      · rw [e]; exact ha
      · rw [List.mem_singleton.mp e]; exact hb⟩
  · rintro ⟨h1, h2⟩
    match p, h1, h2 with
    | [a, b], _, h2 => exact ⟨a, List.mem_range.mpr (h2 a (by simp)), List.mem_map.mpr ⟨b, List.mem_range.mpr (h2 b (by simp)), rfl⟩⟩
theorem allP_len (n : Nat) : (allP n).length = n * n := by
  unfold allP
  rw [List.length_flatMap]
  simp [List.map_const']
theorem allP_nd (n : Nat) : (allP n).Nodup := by
  unfold allP
  refine List.pairwise_flatMap.mpr ⟨fun a _ => nd_map List.nodup_range fun x _ y _ e => by simpa using e, ?_⟩
  exact List.nodup_range.imp fun {a b} hne x hx y hy e => by
    obtain ⟨_, _, rfl⟩ := List.mem_map.mp hx
    obtain ⟨_, _, rfl⟩ := List.mem_map.mp hy
    exact hne (List.cons.inj e).1
theorem Env.tk {H' : Hp} (E : Env B σ H Γ) (t : Tk H H') (tb : TbOk B H') (hl : Γ.all lfO = true) : Env B σ H' Γ := ⟨tb, E.len, fun i g hg => by
  obtain ⟨v, h1, h2⟩ := E.at_ i g hg
  refine ⟨v, h1, ?_⟩
  have q : lfO (some g) = true := List.all_eq_true.mp hl _ (List.mem_of_getElem? hg)
  cases g with
  | d x => exact t.is q (show Is H v x from h2)
  | r p => exact h2⟩
theorem en_pairs {n j j2 : Nat} {G1 : Nat → Ga} {G2 : Nat → Nat → Ga} (n8 : n ≤ 8) (hlf : ∀ a, (G1 a).all lfO = true) (ha : Ev K B ta Γ H (.d (nD n))) (hb : ∀ a, a < n → Ev K B tb (G1 a) H (.d (nD n)))
    (hg : ∀ a, a < n → Tgt K B (gName j) [j, j2] (nD a) (wipeG Γ [j, j2]) (G1 a)) (hg2 : ∀ a, a < n → ∀ b, b < n → Tgt K B (gName j2) [j2] (nD b) (wipeG (G1 a) [j2]) (G2 a b)) (he : ∀ a, a < n → ∀ b, b < n → Ev K B te (G2 a b) H (.d (tD [a, b]))) :
    EvN K B (tLc2 (iRng1 (tCons ta tNil)) (gName j) tYes (iRng1 (tCons tb tNil)) (gName j2) tYes te [j, j2] [j2]) Γ H ((allP n).map tD) := fun σ H1 E e Q q =>
  src_R ha (by omega) σ H1 E e _ fun J H2 G Y e2 W hG hY D hD => by
    rw [List.length_map, List.length_range] at W
    have outE : ∀ i, i < n → ((List.range (i + 1)).flatMap fun a => (List.range n).map fun b => [a, b]) = ((List.range i).flatMap fun a => (List.range n).map fun b => [a, b]) ++ (List.range n).map fun b => [i, b] := fun i _ => by
      rw [List.range_succ, List.flatMap_append]
      simp
    have outL : ∀ i, i ≤ n → ∀ k, k ≤ n → (((List.range i).flatMap fun a => (List.range n).map fun b => [a, b]) ++ (List.range k).map fun b => [i, b]).length ≤ 72 := fun i hi k hk => by
      rw [List.length_append, List.length_flatMap]
      simp [List.map_const']
      have : i * n ≤ 8 * 8 := Nat.mul_le_mul (by omega) n8
      omega
    refine ⟨fun i m H' => m = n - i ∧ i ≤ n ∧ Cw K B H2 D (((List.range i).flatMap fun a => (List.range n).map fun b => [a, b]).map tD) H', ⟨n, by simp, Nat.zero_le _, hD, Ex.new (K := K) (B := B) (o := .lst []) hD, [], upd_same, .nil⟩, ?_⟩
    rintro i m H' ⟨rfl, hi, c⟩
    by_cases hlt : i < n
    · refine .inr ⟨W.goes i H' hlt (hG H' c.ex), fun H' => Cw K B H2 D (((List.range (i + 1)).flatMap fun a => (List.range n).map fun b => [a, b]).map tD) H', fun H'' p' => ⟨n - (i + 1), by omega, rfl, hlt, p'⟩, fun x H'' y => ?_⟩
      obtain ⟨e3, iv⟩ := hY i (nD i) H' x H'' (by rw [List.getElem?_map, List.getElem?_range hlt]; rfl) c.ex (W.yields i H' x H'' hlt (hG H' c.ex) y)
      have cmono : ∀ {es : List (List Nat)} {H3 H4 : Hp}, Cw K B H2 D (es.map tD) H3 → Ex K B H3 H4 → Cw K B H2 D (es.map tD) H4 := fun c e => by
        obtain ⟨us, h1, h2⟩ := c.at_
        exact ⟨c.nw, c.ex.trans e, us, e.lst h1 (norow_of h2 (row_tD _)), h2.mono e⟩
      have c2 := cmono c e3
      refine hg i hlt σ x H'' _ (((E.mono e2).mono c2.ex).wipe _) iv fun σ2 w2 E2 => ⟨w2, ?_⟩
      simp only [tYes, ↓reduceIte]
      refine hb i hlt σ2 H'' E2 ((e.trans e2).trans c2.ex) _ fun v H4 e4 v4 => ?_
      cases (show Is H4 v (.int (n : Int)) from v4)
      refine ⟨(n : Int), rfl, by omega, by omega, ?_⟩
      have c4 := cmono c2 e4
      have W1 : Walk (Itr 0 (n : Int).toNat) n (fun _ => True) (YFn fun i => .int (0 + (i : Int))) := by rw [Int.toNat_natCast]; exact walk_range
      refine ⟨fun k m H' => m = n - k ∧ k ≤ n ∧ Tk H4 H' ∧ Cw K B H2 D ((((List.range i).flatMap fun a => (List.range n).map fun b => [a, b]) ++ (List.range k).map fun b => [i, b]).map tD) H', ⟨n, by simp, Nat.zero_le _, Tk.refl _, by simpa using c4⟩, ?_⟩
      rintro k m H5 ⟨rfl, hk, tk5, c5⟩
      by_cases hkn : k < n
      · refine .inr ⟨W1.goes k H5 hkn trivial, fun H' => Tk H4 H' ∧ Cw K B H2 D ((((List.range i).flatMap fun a => (List.range n).map fun b => [a, b]) ++ (List.range (k + 1)).map fun b => [i, b]).map tD) H', fun H6 p => ⟨n - (k + 1), by omega, rfl, hkn, p.1, p.2⟩, fun x2 H6 y2 => ?_⟩
        obtain ⟨rfl, rfl⟩ := W1.yields k H5 x2 H6 hkn trivial y2
        have iv2 : Is H6 (.int (0 + (k : Int))) (nD k) := by rw [Int.zero_add]; exact .int _
        have E6 : Env B σ2 H6 (G1 i) := (E2.mono e4).tk tk5 (c5.ex.tb (E.mono e2).tb) (hlf i)
        refine hg2 i hlt k hkn σ2 _ H6 _ (E6.wipe _) iv2 fun σ3 w3 E3 => ⟨w3, ?_⟩
        simp only [tYes, ↓reduceIte]
        refine he i hlt k hkn σ3 H6 E3 ((e.trans e2).trans c5.ex) _ fun y7 H7 e7 v7 => ?_
        obtain ⟨us, h1, h2⟩ := c5.at_
        have nr := norow_of h2 (row_tD _)
        have h17 := e7.lst h1 nr
        have hl7 := outL i hi k hk
        have np : ∀ xs, ¬ Rd H7 D (.tup xs) := plain_nt (by rw [h17]; trivial)
        refine ⟨us, h17, ltline (by rw [h2.len, List.length_map]; omega), (tk5.trans e7.tk).trans (tk_upd (by rw [h17]; trivial)), c5.nw, (c5.ex.trans e7).mut c5.nw (by rw [h17]; trivial), us ++ [y7], upd_same, ?_⟩
        have eo : (((List.range i).flatMap fun a => (List.range n).map fun b => [a, b]) ++ (List.range (k + 1)).map fun b => [i, b]).map tD = (((List.range i).flatMap fun a => (List.range n).map fun b => [a, b]) ++ (List.range k).map fun b => [i, b]).map tD ++ [tD [i, k]] := by
          simp only [List.range_succ, List.map_append, List.append_assoc]
          rfl
        rw [eo]
        exact ((h2.mono e7).upd (lf_tDs _) np).app (.one (Is.upd (show Is H7 y7 (tD [i, k]) from v7) (lf_tD _) np))
      · have ek : k = n := by omega
        subst ek
        refine .inl ⟨W1.stops H5 trivial, ?_⟩
        rw [outE i hlt]
        exact c5
    · have ei : i = n := by omega
      subst ei
      obtain ⟨us, h1, h2⟩ := c.at_
      exact .inl ⟨W.stops H' (hG H' c.ex), q D us H' (e2.sm D hD) (e2.trans c.ex) h1 h2⟩
def leadP (ts : List Tn) (p : List Nat) : List (List Nat) := ts.map fun t => ap2 t p
noncomputable def rankN (n : Nat) (ts : List Tn) : Nat := (reps (rRT (leadP ts)) (allP n)).length
abbrev PPairs (P : Program) (w : World) (K : PySem.W.Frag) (mg : Str → Option Value) (base : Heap) (B : Tbs) : Prop := Pr P w K mg base 3 "pair_lots_of" ["house"] (spN K B fun ds es => ∃ n ts, ds = [hD n ts] ∧ es.length = rankN n ts ∧ rowD es = false ∧ HOkN n ts)
theorem slotAt_start {v : V} {N : List Str} {vs : List V} (h : (L2.start N vs)[0]? = some (some v)) : ([0].map (NdefX.slotAt (L2.start N vs))) = [some v] := congrArg (fun z => [z]) (NdefX.slotAt_of h)
theorem spN_any_len {C : List PyData → List PyData → Prop} {n : Nat} (hC : ∀ ds d, C ds d → ds.length = n) : ∀ vs H Q E, (fun vs H (Q : VK) (_ : XK) => TbOk B H ∧ ∃ ds, IsAll H vs ds ∧ ∀ es, C ds es → ∀ p us H', H p = none → Ex K B H H' → H' p = some (.lst us) → IsAll H' us es → Q (.ref p) H') vs H Q E → True := fun _ _ _ _ _ => trivial
end
end NB
set_option maxHeartbeats 2000000
/-! the lots of pairs, the likes -/
namespace NB
open PySem PySem.Spec PyProof.Rows L2
/-- a new list, known by a number only -/
def spNR (K : PySem.W.Frag) (B : Tbs) (C : List PyData → Nat → Prop) : Sp := fun vs H Q _ => TbOk B H ∧ ∃ ds n, IsAll H vs ds ∧ C ds n ∧ ∀ p us es H', H p = none → Ex K B H H' → H' p = some (.lst us) → IsAll H' us es → es.length = n → rowD es = false → Q (.ref p) H'
section
variable {P : Program} {w : World} {K : PySem.W.Frag} {mg : Str → Option Value} {base : Heap} {B : Tbs} {c : Addr} {Γ : Ga} {σ : St} {H H' : Hp} {te ta tb : TE} {D : Ends} {tz : TS}
theorem s_retGD {Pt : Addr} {q : Str} {N1 Ng : List Str} {js : List Nat} {ta : TA} {tb t0 : TE} {BT : TE → TS} {ds : List PyData} (E : Env B σ H Γ) (h0 : Ev K B t0 Γ H (.d (.list ds)))
    (k : ∀ v H1, Ex K B H H1 → Is H1 v (.list ds) → LamX.TabS H1 Pt q ∧ ∀ f c' H2, LamMade H1 H2 Pt q c' → BT (tLead f c' q 1 (js.map (NdefX.slotAt σ)) N1 ta tb) { nx := fun _ H' => D.rt .non H', rt := D.rt } (L2.start Ng [v, .ref f]) H2) :
    tRet (tGive Pt q N1 Ng js ta tb t0 BT) D σ H := h0 σ H E (Ex.refl K H) _ k
theorem s_retGI {Pt : Addr} {q : Str} {N1 Ng : List Str} {js : List Nat} {ta : TA} {tb t0 ti : TE} {r : R2} {BT : TE → TS} {ds : List PyData} (E : Env B σ H Γ) (h0 : Ev K B t0 Γ H (.d (.list ds)))
    (k : ∀ v H1, Ex K B H H1 → Is H1 v (.list ds) → LamX.TabS H1 Pt q ∧ ∀ f c' H2, LamMade H1 H2 Pt q c' → BT (tLead f c' q 1 (js.map (NdefX.slotAt σ)) N1 ta tb) { nx := fun _ H' => ti σ H' fun y H2 => r .non y H2 D.rt, rt := fun v H' => ti σ H' fun y H2 => r v y H2 D.rt } (L2.start Ng [v, .ref f]) H2) :
    tRet (tOp r (tGive Pt q N1 Ng js ta tb t0 BT) ti) D σ H := h0 σ H E (Ex.refl K H) _ k
theorem pr_pair_lots_of (D : DdT K mg "pair_lots_of" s_pair_lots_of c) (G : Bl mg) (TB : LamX.TabB base mg c B.pl) (ne : TbNe B) {g : Addr} {oc : Value} {od : Option Addr} {dV kV doc pm cdv ct : Value} {an : Option Addr} {osl : Array (Option Value)} (L : LotsAt K mg "lots_of" s_lots_of ["things", "leads"] g oc od dV kV doc pm cdv ct an osl) :
    Pr P w K mg base 3 "pair_lots_of" ["house"] (spNR K B fun ds m => ∃ n ts, ds = [hD n ts] ∧ m = rankN n ts ∧ HOkN n ts) := by
  refine pr_ofT D sc_pair_lots_of (b1 fun _ _ _ _ _ _ _ => rfl) (fun vs H Q E ⟨_, ds, m, h1, ⟨_, _, h2, _⟩, _⟩ => by rw [h1.len, h2]; rfl) fun f A outer s H vs Q E hr h => ⟨_, (wt_pair_lots_of TB L G hr).2, ?_⟩
  obtain ⟨tb, ds, es, hI, ⟨n, ts, rfl, rfl, ho⟩, k⟩ := h
  have E0 := env_start (N := N_pair_lots_of) tb (slsOk_data hI) (by rw [hI.len]; exact Nat.le_of_ble_eq_true rfl)
  have n8 := ho.n8
  have nn : n * n ≤ 8 * 8 := Nat.mul_le_mul n8 n8
  unfold wt_pair_lots_of
  dsimp only [List.map]
  have hn : ∀ {a b c : Option Sl} H, Ev K B (tOp (rIxT K) (tVar 0) (tC (.int 0))) [some (.d (hD n ts)), a, b, c] H (.d (nD n)) := fun H => ev_op (ev_var (i := 0) (s := .d (hD n ts)) rfl) ev_int (o_ixT (j := 0) rfl)
  refine q_asgN (K := K) (i := 1) (ds := (allP n).map tD) E0 (en_pairs (j := 2) (j2 := 3) (G1 := fun a => [some (.d (hD n ts)), none, some (.d (nD a)), none]) (G2 := fun a b => [some (.d (hD n ts)), none, some (.d (nD a)), some (.d (nD b))]) n8 (fun a => by simp [lfO, lfS, lf_hD, lf]) (hn H) (fun a _ => hn H) (fun a ha => tgt_name (fun σ x => ?_)) (fun a ha b hb => tgt_name (wipe1 3)) fun a ha b hb => ev_tup (ds := [nD a, nD b]) (ea2 (ev_var (i := 2) rfl) (ev_var (i := 3) rfl)) (Nat.le_of_ble_eq_true rfl)) fun p us H1 hp e1 h1 i1 E1 => ?_
  · show ((((σ.set 3 none).set 2 none).set 2 (some x)).set 3 none).set 2 none = (σ.set 3 none).set 2 none
    rw [List.set_set, List.set_comm _ _ (show 2 ≠ 3 by decide), List.set_set, List.set_set]
  obtain ⟨hv, hv1, hv2⟩ := E1.at_ 0 (.d (hD n ts)) rfl
  have L1 : Lo H1 p ((allP n).map tD) := ⟨us, h1, i1⟩
  refine s_retGD (K := K) E1 (ev_varL (i := 1) rfl L1 (row_tD _)) fun v1 H2 e2 i2 => ?_
  have hPq : LamOf B B.pl "pair_lots_of.<locals>.<lambda>" := .inr (.inl ⟨rfl, rfl⟩)
  refine ⟨hPq.tab (e2.tb (e1.tb tb)), fun f' c' H3 LM => ?_⟩
  have e3 : Ex K B H2 H3 := ex_lam ne hPq LM
  rw [show ([0].map (NdefX.slotAt ((L2.start N_pair_lots_of vs).set 1 (some (.ref p))))) = [some hv] from congrArg (fun z => [z]) (NdefX.slotAt_of hv1)]
  refine lots_law (kx_T (P := P) (w := w) (K := K) (B := B)) (S := allP n) (things := allP n) (leads := leadP ts) (fun x h => h) (allP_nd n) (fun x hx z => ?_) (fun x hx y hy => ?_) (by rw [allP_len]; omega) (by rw [allP_len]; omega) (Is.mono e3 i2) (e3.tb (e2.tb (e1.tb tb))) (fun a ha Γ' g1 g6 H4 e4 => ?_)
    (RF := fun es => es.length = rankN n ts ∧ rowD es = false) (fun Γ' σ' H4 pf E4 g3 L4 Q' q' => ?_) fun p' us' es' H4 hp' e4 h4 i4 r4 => k p' us' es' H4 (((e1.trans e2).trans e3).sm _ hp') (((e1.trans e2).trans e3).trans e4) h4 i4 r4.1 r4.2
  · have := (allP_mem.mp hx).1
    rw [z] at this
    simp at this
  · obtain ⟨t, ht, rfl⟩ := List.mem_map.mp hy
    obtain ⟨x1, x2⟩ := allP_mem.mp hx
    refine allP_mem.mpr ⟨by simpa [ap2] using x1, fun z hz => ?_⟩
    obtain ⟨u, hu, rfl⟩ := List.mem_map.mp hz
    exact (ho.ok t ht).at (x2 u hu)
  · obtain ⟨x1, x2⟩ := allP_mem.mp ha
    match a, x1, x2 with
    | [u, z], _, x2 =>
    have hu := x2 u (by simp)
    have hz := x2 z (by simp)
    refine en_lead (d := tD [u, z]) (hd := hD n ts) g1 g6 (e4.fx _ _ LM.code fix_ext) (Is.mono e4 (Is.mono e3 (Is.mono e2 hv2))) (by decide) ?_
    have pr : ∀ {w : Option Sl} H (j x : Nat), [nD u, nD z][j]? = some (nD x) → Ev K B (tOp (rIxT K) (tVar 0) (tC (.int (j : Int)))) [some (.d (tD [u, z])), some (.d (hD n ts)), w] H (.d (nD x)) := fun H j x hx => ev_op (ev_var (i := 0) (s := .d (tD [u, z])) rfl) ev_int (o_ixT (j := j) hx)
    refine (en_lcY (K := K) (B := B) (enc := tD) (xs := ts) (val := fun t => tD [t.getD u 0, t.getD z 0]) (G' := fun t => [some (.d (tD [u, z])), some (.d (hD n ts)), some (.d (tD t))]) (src_T (ds := ts.map tD) (ev_op (ev_var (i := 1) (s := .d (hD n ts)) rfl) ev_int (o_ixT (j := 1) rfl))) (by have := ho.t6; omega) (fun t ht => tgt_name (j := 2) (wipe1 2))
      (fun t ht => ⟨ev_tup (ds := [nD (t.getD u 0), nD (t.getD z 0)]) (ea2 (ev_op (ev_var (i := 2) (s := .d (tD t)) rfl) (pr _ 0 u rfl) (o_ixT (at_nD (by rw [(ho.ok t ht).len]; exact hu)))) (ev_op (ev_var (i := 2) (s := .d (tD t)) rfl) (pr _ 1 z rfl) (o_ixT (at_nD (by rw [(ho.ok t ht).len]; exact hz))))) (Nat.le_of_ble_eq_true rfl), lf_tD _⟩) (hom_tup fun d ⟨x, _, e⟩ => ⟨_, e⟩)).to ?_
    unfold leadP
    rw [List.map_map]
    rfl
  · have hz := reps_len (rRT (leadP ts)) _ (allP n) (Nat.le_refl _)
    rw [allP_len] at hz
    refine ev_varL (K := K) (B := B) (i := 3) g3 L4 ((kx_T (P := P) (w := w) (K := K) (B := B)).rowT _) σ' H4 E4 (Ex.refl K H4) _ fun v5 H5 e5 v5' => ?_
    refine .inr (o_srtNs (K := K) (B := B) (H := H5) (Ls := (reps (rRT (leadP ts)) (allP n)).map fun x => sortL (cls (allP n) (leadP ts) x)) (by rw [List.length_map]; omega) (fun M hM => ?_) [v5] H5 (e5.tb E4.tb) (Ex.refl K H5) (.cons v5' .nil) Q' fun Ls' p us H6 hp' hp e6 h6 i6 => q' p us _ H6 (e5.sm p hp) (e5.trans e6) h6 i6 ⟨?_, (kx_T (P := P) (w := w) (K := K) (B := B)).rowT _⟩)
    · obtain ⟨x, hx, rfl⟩ := List.mem_map.mp hM
      refine ⟨fun z => ?_, fun t ht z => ?_⟩
      · have := (sortL_perm (cls (allP n) (leadP ts) x)).mem_iff.mpr (cls_self (reps_mem hx))
        rw [z] at this
        cases this
      · have h2 := (sortL_perm _).mem_iff.mp ht
        have h3 := (allP_mem.mp (List.mem_filter.mp h2).1).1
        rw [z] at h3
        simp at h3
    · rw [List.length_map, hp'.length_eq, List.length_map]
      rfl
theorem pr_rank (D : Dd K mg "rank" s_rank) (G : Bl mg) (Dh : PHouse P w K mg base B) (Dp : Pr P w K mg base 3 "pair_lots_of" ["house"] (spNR K B fun ds m => ∃ n ts, ds = [hD n ts] ∧ m = rankN n ts ∧ HOkN n ts)) :
    Pr P w K mg base 11 "rank" ["house"] (spD K B fun ds d => ∃ n ts, ds = [hD n ts] ∧ d = nD (rankN n ts) ∧ HOkN n ts) := by
  refine pr_of D sc_rank (b1 fun _ _ _ _ _ _ _ => rfl) (spD_len (n := 1) fun ds d ⟨_, _, h, _⟩ => by rw [h]; rfl) fun f cdv A outer s H vs Q E hr h => ⟨_, (wt_rank G Dh Dp hr).2, ?_⟩
  obtain ⟨tb, ds, d, hI, ⟨n, ts, rfl, rfl, ho⟩, k⟩ := h
  have E0 := env_start (N := N_rank) tb (slsOk_data hI) (by rw [hI.len]; exact Nat.le_of_ble_eq_true rfl)
  refine q_drop (K := K) E0 (ev_call (ds := [hD n ts]) (ea1 (ev_var rfl)) ⟨n, ts, rfl, rfl, ho⟩) fun H1 e1 E1 => ?_
  obtain ⟨hv, hv1, hv2⟩ := E1.at_ 0 (.d (hD n ts)) rfl
  refine ⟨hv, hv1, E1.tb, [hD n ts], _, .one hv2, ⟨n, ts, rfl, rfl, ho⟩, fun p us es H2 hp e2 h2 i2 hl hr => ?_⟩
  refine o_lenD (K := K) (B := B) (ds := es) [.ref p] H2 (e2.tb E1.tb) (Ex.refl K H2) (.cons (.lst h2 (norow_of i2 hr) i2) .nil) _ fun v H3 e3 v3 => k v H3 ((e1.trans e2).trans e3) ?_
  rw [← hl]
  exact v3
/-! ### likes -/
noncomputable def likesN (S : List Tn) (ts : List Tn) (t : Tn) : List Tn := sortL (cls (reps (fun a b => decide (a = b)) (S.map fun g => cnj g t)) (fun a => ts.map fun w => cnj w a) t)
def dd (l : List Tn) : List Tn := reps (fun a b => decide (a = b)) l
theorem dd_mem {l : List Tn} {x : Tn} : x ∈ dd l ↔ x ∈ l := by
  refine ⟨reps_mem, fun h => ?_⟩
  obtain ⟨y, hy, e⟩ := reps_cov (r := fun a b => decide (a = b)) (fun x => by simp) _ l (Nat.le_refl _) x h
  rw [← of_decide_eq_true e]
  exact hy
theorem dd_nd (l : List Tn) : (dd l).Nodup := (reps_apart (r := fun a b => decide (a = b)) _ l (Nat.le_refl _)).imp fun h => of_decide_eq_false h
theorem dd_len (l : List Tn) : (dd l).length ≤ l.length := reps_len _ _ l (Nat.le_refl _)
abbrev leadC (ts : List Tn) (a : Tn) : List Tn := ts.map fun w => cnj w a
abbrev orbC (S : List Tn) (t : Tn) : List Tn := dd (S.map fun g => cnj g t)
theorem likesN_eq (S ts : List Tn) (t : Tn) : likesN S ts t = sortL (cls (orbC S t) (leadC ts) t) := rfl
theorem cnj_isTn {n : Nat} {a b : Tn} (ha : IsTn n a) (hb : IsTn n b) : IsTn n (cnj a b) := (((isTn_bck ha).thn hb).thn ha)
theorem ts_in {n : Nat} {ts S : List Tn} (G : GOk n ts S) {w : Tn} (hw : w ∈ ts) : w ∈ S := (G.g.mem w).mpr (by
  have := still_thn (G.ho.ok w hw)
  rw [← this]
  exact RT.one ⟨w, hw, rfl⟩)
theorem orbC_in {n : Nat} {ts S : List Tn} {t : Tn} (G : GOk n ts S) (ht : IsTn n t) : t ∈ orbC S t := dd_mem.mpr (List.mem_map.mpr ⟨_, G.g.one, (act_cnj n).one t ht⟩)
theorem orbC_cl {n : Nat} {ts S : List Tn} {t : Tn} (G : GOk n ts S) (ht : IsTn n t) : ∀ x ∈ orbC S t, ∀ y ∈ leadC ts x, y ∈ orbC S t := fun x hx y hy => by
  obtain ⟨g, hg, rfl⟩ := List.mem_map.mp (dd_mem.mp hx)
  obtain ⟨w, hw, rfl⟩ := List.mem_map.mp hy
  refine dd_mem.mpr (List.mem_map.mpr ⟨thn g w, G.g.mul hg (ts_in G hw), ?_⟩)
  exact (act_cnj n).mul g w t (G.g.isT hg) (G.ho.ok w hw) ht
theorem orbC_tn {n : Nat} {ts S : List Tn} {t : Tn} (G : GOk n ts S) (ht : IsTn n t) : ∀ x ∈ orbC S t, IsTn n x := fun x hx => by
  obtain ⟨g, hg, rfl⟩ := List.mem_map.mp (dd_mem.mp hx)
  exact cnj_isTn (G.g.isT hg) ht
abbrev CLik (ds : List PyData) (d : PyData) : Prop := ∃ n ts S t, ds = [hD n ts, tD t] ∧ d = .tuple ((likesN S ts t).map tD) ∧ GOk n ts S ∧ IsTn n t
abbrev PLik (P : Program) (w : World) (K : PySem.W.Frag) (mg : Str → Option Value) (base : Heap) (B : Tbs) : Prop := Pr P w K mg base 4 "likes_of" ["house", "turn"] (spD K B CLik)
theorem pr_likes_of (D : DdT K mg "likes_of" s_likes_of c) (G : Bl mg) (TB : LamX.TabB base mg c B.lk) (ne : TbNe B) (Dt : Pr P w K mg base 1 "then" ["one", "other"] (spD K B CThen)) (Db : Pr P w K mg base 1 "back" ["one"] (spD K B CBack)) {g : Addr} {oc : Value} {od : Option Addr} {dV kV doc pm cdv ct : Value} {an : Option Addr} {osl : Array (Option Value)} (L : LotsAt K mg "lots_of" s_lots_of ["things", "leads"] g oc od dV kV doc pm cdv ct an osl) : PLik P w K mg base B := by
  refine pr_ofT D sc_likes_of (b2 fun _ _ _ _ _ _ _ _ => rfl) (spD_len (n := 2) fun ds d ⟨_, _, _, _, h, _⟩ => by rw [h]; rfl) fun f A outer s H vs Q E hr h => ⟨_, (wt_likes_of TB L G Dt Db hr).2, ?_⟩
  obtain ⟨tb, ds, d, hI, ⟨n, ts, S, t, rfl, rfl, hG, ht⟩, k⟩ := h
  have E0 := env_start (N := N_likes_of) tb (slsOk_data hI) (by rw [hI.len]; exact Nat.le_of_ble_eq_true rfl)
  have n8 := hG.ho.n8
  have n1 := hG.ho.n1
  unfold wt_likes_of
  dsimp only [List.map]
  obtain ⟨hv, hv1, hv2⟩ := E0.at_ 0 (.d (hD n ts)) rfl
  refine s_retGI (K := K) (ds := [tD t]) E0 (EvN.ev (en_lst (ds := [tD t]) (ea1 (ev_var (i := 1) rfl)) (Nat.le_of_ble_eq_true rfl)) rfl) fun v1 H2 e2 i2 => ?_
  have hPq : LamOf B B.lk "likes_of.<locals>.<lambda>" := .inr (.inr ⟨rfl, rfl⟩)
  refine ⟨hPq.tab (e2.tb tb), fun f' c' H3 LM => ?_⟩
  have e3 : Ex K B H2 H3 := ex_lam ne hPq LM
  rw [show ([0].map (NdefX.slotAt (L2.start N_likes_of vs))) = [some hv] from congrArg (fun z => [z]) (NdefX.slotAt_of hv1)]
  have ol : (orbC S t).length ≤ 120 := by
    have := dd_len (S.map fun g => cnj g t)
    rw [List.length_map] at this
    exact Nat.le_trans this hG.sz
  have nz : ∀ {x : Tn}, IsTn n x → x ≠ [] := fun hx z => by
    have := hx.len
    rw [z] at this
    simp at this
    omega
  refine lots_law (kx_T (P := P) (w := w) (K := K) (B := B)) (S := orbC S t) (things := [t]) (leads := leadC ts) (fun x hx => by rw [List.mem_singleton.mp hx]; exact orbC_in hG ht) (dd_nd _) (fun x hx => nz (orbC_tn hG ht x hx)) (orbC_cl hG ht) ol (by simp) (Is.mono e3 i2) (e3.tb (e2.tb tb)) (fun a ha Γ' g1 g6 H4 e4 => ?_)
    (RF := fun es => es = [.tuple ((likesN S ts t).map tD)]) (fun Γ' σ' H4 pf E4 g3 L4 Q' q' => ?_) fun p' us' es' H4 hp' e4 h4 i4 r4 => ?_
  · have hat := orbC_tn hG ht a ha
    refine en_lead (d := tD a) (hd := hD n ts) g1 g6 (e4.fx _ _ LM.code fix_ext) (Is.mono e4 (Is.mono e3 (Is.mono e2 hv2))) (by decide) ?_
    refine (en_lcY (K := K) (B := B) (enc := tD) (xs := ts) (val := fun w => tD (cnj w a)) (G' := fun w => [some (.d (tD a)), some (.d (hD n ts)), some (.d (tD w))]) (src_T (ds := ts.map tD) (ev_op (ev_var (i := 1) (s := .d (hD n ts)) rfl) ev_int (o_ixT (j := 1) rfl))) (by have := hG.ho.t6; omega) (fun w hw => tgt_name (j := 2) (wipe1 2))
      (fun w hw => ⟨?_, lf_tD _⟩) (hom_tup fun d ⟨x, _, e⟩ => ⟨_, e⟩)).to ?_
    · have hwt := hG.ho.ok w hw
      refine ev_call (ds := [tD (thn (bck w) a), tD w]) (ea2 (ev_call (ds := [tD (bck w), tD a]) (ea2 (ev_call (ds := [tD w]) (ea1 (ev_var (i := 2) rfl)) ⟨n, w, rfl, rfl, hwt, n8⟩) (ev_var (i := 0) rfl)) ⟨n, _, _, rfl, rfl, isTn_bck hwt, hat, n8⟩) (ev_var (i := 2) rfl)) ⟨n, _, _, rfl, rfl, (isTn_bck hwt).thn hat, hwt, n8⟩
    · show _ = (ts.map fun w => cnj w a).map tD
      rw [List.map_map]
      rfl
  · have hr1 : reps (rRT (leadC ts)) [t] = [t] := by rw [reps_cons]; simp [reps_nil]
    rw [hr1] at L4
    refine ev_varL (K := K) (B := B) (i := 3) g3 L4 ((kx_T (P := P) (w := w) (K := K) (B := B)).rowT _) σ' H4 E4 (Ex.refl K H4) _ fun v5 H5 e5 v5' => ?_
    refine .inr (o_srtNs (K := K) (B := B) (H := H5) (Ls := [likesN S ts t]) (by simp) (fun M hM => ?_) [v5] H5 (e5.tb E4.tb) (Ex.refl K H5) (.cons v5' .nil) Q' fun Ls' p us H6 hp' hp e6 h6 i6 => q' p us _ H6 (e5.sm p hp) (e5.trans e6) h6 i6 ?_)
    · rw [List.mem_singleton.mp hM]
      refine ⟨fun z => ?_, fun x hx => ?_⟩
      · have := (sortL_perm (cls (orbC S t) (leadC ts) t)).mem_iff.mpr (cls_self (orbC_in hG ht))
        rw [← likesN_eq, z] at this
        cases this
      · exact nz (orbC_tn hG ht x (List.mem_filter.mp ((sortL_perm _).mem_iff.mp hx)).1)
    · rw [List.perm_singleton.mp hp']
      rfl
  · subst r4
    refine o_ixD (K := K) (B := B) (j := 0) rfl (.ref p') (.int ((0 : Nat) : Int)) H4 (e4.tb (e3.tb (e2.tb tb))) (Ex.refl K H4) (.lst h4 (norow_of i4 rfl) i4) (.int _) Q fun v5 H5 e5 i5 => k v5 H5 (((e2.trans e3).trans e4).trans e5) i5
theorem pr_likes (D : Dd K mg "likes" s_likes) (G : Bl mg) (Dh : PHouse P w K mg base B) (Dt : PNTurn P w K mg base B) (Dl : PLik P w K mg base B) : Pr P w K mg base 11 "likes" ["house", "turn"] (spD K B CLik) := by
  refine pr_of D sc_likes (b2 fun _ _ _ _ _ _ _ _ => rfl) (spD_len (n := 2) fun ds d ⟨_, _, _, _, h, _⟩ => by rw [h]; rfl) fun f cdv A outer s H vs Q E hr h => ⟨_, (wt_likes G Dh Dt Dl hr).2, ?_⟩
  obtain ⟨tb, ds, d, hI, ⟨n, ts, S, t, rfl, rfl, hG, ht⟩, k⟩ := h
  have E0 := env_start (N := N_likes) tb (slsOk_data hI) (by rw [hI.len]; exact Nat.le_of_ble_eq_true rfl)
  refine q_drop (K := K) E0 (ev_call (ds := [hD n ts]) (ea1 (ev_var rfl)) ⟨n, ts, rfl, rfl, hG.ho⟩) fun H1 e1 E1 => ?_
  refine q_drop (K := K) E1 (ev_call (ds := [hD n ts, tD t]) (ea2 (ev_var rfl) (ev_var rfl)) ⟨n, ts, t, rfl, rfl, hG.ho, ht⟩) fun H2 e2 E2 => ?_
  exact s_ret (K := K) E2 (ev_call (ds := [hD n ts, tD t]) (ea2 (ev_var rfl) (ev_var rfl)) ⟨n, ts, S, t, rfl, rfl, hG, ht⟩) fun v H3 e3 => k v H3 ((e1.trans e2).trans e3)
end
end NB
set_option maxHeartbeats 2000000
/-! the law's row: what is drawn from it -/
namespace NB
open PySem PySem.Spec PyProof.Rows L2
/-- exactly this value, the heap as it was -/
def Vl (te : TE) (σ : St) (H : Hp) (v : V) : Prop := ∀ Q : VK, Q v H → te σ H Q
section
variable {P : Program} {w : World} {K : PySem.W.Frag} {mg : Str → Option Value} {base : Heap} {B : Tbs} {Γ : Ga} {σ : St} {H H' : Hp} {te ta tb : TE} {D : Ends} {tz tu tw : TS} {x y v : V} {r : R2}
theorem vl_var {i : Nat} (h : σ[i]? = some (some v)) : Vl (tVar i) σ H v := fun Q q => ⟨v, h, q⟩
theorem vl_c : Vl (tC v) σ H v := fun Q q => q
theorem vl_op (ha : Vl ta σ H x) (hb : Vl tb σ H y) (hr : ∀ Q : VK, Q v H → r x y H Q) : Vl (tOp r ta tb) σ H v := fun Q q => ha _ (hb _ (hr Q q))
theorem vl_cb {rl : List V → Hp → VK → Prop} (ha : Vl ta σ H x) (hr : ∀ Q : VK, Q v H → rl [x] H Q) : Vl (tCB rl (tCons ta tNil)) σ H v := fun Q q => ha _ (hr Q q)
theorem vl_asg {i : Nat} (h : Vl te σ H v) (k : tz D (σ.set i (some v)) H) : tSeq (tAsg te (gName i)) tz D σ H := h _ k
theorem vl_if {b : Bool} (h : Vl te σ H (.bl b)) (h1 : b = true → tu { D with nx := tz D } σ H) (h2 : b = false → tw { D with nx := tz D } σ H) : tSeq (tIfS (tTest te) tu tw) tz D σ H := h _ ⟨b, rfl, by
  cases b with
  | true => exact h1 rfl
  | false => exact h2 rfl⟩
theorem vl_set {i j : Nat} {p : Addr} {xs : List V} (h : Vl te σ H v) (hi : σ[i]? = some (some (.ref p))) (hp : H p = some (.lst xs)) (hj : j < xs.length) (k : tz D σ (upd H p (.lst (xs.set j v)))) : tSeq (tAsg te (gSub (tVar i) (tC (.int (j : Int))) rSetL)) tz D σ H :=
  h _ ⟨_, hi, p, xs, (j : Int), j, rfl, rfl, hp, ixN_nat hj, k⟩
theorem vl_setS {i j : Nat} {p : Addr} {xs : List V} (h : Vl te σ H v) (hi : σ[i]? = some (some (.ref p))) (hp : H p = some (.lst xs)) (hj : j < xs.length) (k : D.nx σ (upd H p (.lst (xs.set j v)))) : tAsg te (gSub (tVar i) (tC (.int (j : Int))) rSetL) D σ H :=
  h _ ⟨_, hi, p, xs, (j : Int), j, rfl, rfl, hp, ixN_nat hj, k⟩
theorem vl_ixL {p : Addr} {xs : List V} {j : Nat} (hp : SqL K H p xs) (hv : xs[j]? = some v) (ha : Vl ta σ H (.ref p)) (hb : Vl tb σ H (.int (j : Int))) : Vl (tOp (rIxL K) ta tb) σ H v := vl_op ha hb fun Q q => ⟨p, xs, (j : Int), v, rfl, rfl, hp, atI_nat hv, q⟩
theorem vl_I0 {g : Int → Int → V} {i j : Int} (ha : Vl ta σ H (.int i)) (hb : Vl tb σ H (.int j)) : Vl (tOp (rI0 g) ta tb) σ H (g i j) := vl_op ha hb fun Q q => ⟨i, j, rfl, rfl, q⟩
theorem vl_I {C : Int → Int → Prop} {g : Int → Int → V} {i j : Int} (ha : Vl ta σ H (.int i)) (hb : Vl tb σ H (.int j)) (hc : C i j) : Vl (tOp (rI C g) ta tb) σ H (g i j) := vl_op ha hb fun Q q => ⟨i, j, rfl, rfl, hc, q⟩
theorem vl_ret (h : Vl te σ H v) (k : D.rt v H) : tRet te D σ H := h _ k
abbrev rowL (s : Addr) (i z r : Int) : List V := [.ref s, .int i, .int z, .int r]
theorem ex_row {a s : Addr} {ns : List Int} {i z r : Int} (h : RowAt K H a s ns) (hi : 0 ≤ i) : Ex K B H (upd H a (.lst (rowL s i z r))) := by
  obtain ⟨⟨i0, z0, r0, h1, h0⟩, h2⟩ := h
  have nf : ∀ b o, H b = some o → Fix o → b ≠ a := fun b o e f q => by
    rw [q, h1] at e
    cases e
    exact f.2 trivial
  have up : ∀ b o, H b = some o → Fix o → (upd H a (.lst (rowL s i z r))) b = some o := fun b o e f => by
    rw [upd_ne (nf b o e f)]
    exact e
  refine ⟨up, fun k => k.upd (by rw [h1]; trivial), fun a' s' ns' k => ?_, fun b e => ?_⟩
  · obtain ⟨⟨i', z', r', k1, k0⟩, k2⟩ := k
    refine ⟨?_, seq_keep k2 (norow_ints ns') up⟩
    by_cases q : a' = a
    · subst q
      rw [h1] at k1
      cases k1
      exact ⟨i, z, r, upd_same, hi⟩
    · exact ⟨i', z', r', by rw [upd_ne q]; exact k1, k0⟩
  · by_cases q : b = a
    · rw [q, upd_same] at e; cases e
    · rw [upd_ne q] at e; exact e
def spT (K : PySem.W.Frag) (B : Tbs) : Sp := fun vs H Q _ => TbOk B H ∧ ∃ a s ns, ∃ m : Nat, vs = [.ref a, .int m] ∧ RowAt K H a s ns ∧ 0 < m ∧ m < 1000000 ∧ ∀ (i : Nat) H', i < m → Ex K B H H' → Q (.int i) H'
theorem int1 {i : Int} (ha : Vl ta σ H (.int i)) : Vl (tCB (fun xs H Q => (∃ i, xs = [V.int i] ∧ Q (V.int i) H) ∨ ∃ k, xs = [V.bl k] ∧ Q (V.int (if k = true then 1 else 0)) H) (tCons ta tNil)) σ H (.int i) := vl_cb ha fun Q q => .inl ⟨i, rfl, q⟩
theorem emod_nat {i : Int} {m : Nat} (hm : 0 < m) : ∃ j : Nat, j < m ∧ i % (m : Int) = (j : Int) := by
  have h1 := Int.emod_nonneg i (show (m : Int) ≠ 0 by omega)
  have h2 := Int.emod_lt_of_pos i (show (0 : Int) < m by omega)
  exact ⟨(i % (m : Int)).toNat, by omega, by omega⟩
abbrev PTak (P : Program) (w : World) (K : PySem.W.Frag) (mg : Str → Option Value) (base : Heap) (B : Tbs) : Prop := Pr P w K mg base 1 "_law_taken" ["_law_row", "_law_many"] (spT K B)
theorem pr_law_taken (D : Dd K mg "_law_taken" s_law_taken) (G : Bl mg) : PTak P w K mg base B := by
  refine pr_of D sc_law_taken (b2 fun _ _ _ _ _ _ _ _ => rfl) (fun vs H Q E ⟨_, a, s, ns, m, h, _⟩ => by rw [h]; rfl) fun f cdv A outer s0 H vs Q E hr h => ⟨_, (wt_law_taken G hr).2, ?_⟩
  obtain ⟨tb, a, s, ns, m, rfl, hR, m0, m6, k⟩ := h
  obtain ⟨⟨i, z, r, h1, hi⟩, h2⟩ := hR
  have hR : RowAt K H a s ns := ⟨⟨i, z, r, h1, hi⟩, h2⟩
  unfold wt_law_taken
  dsimp only [List.map]
  have σ0 : ∀ {a b : V} {u w : Option V}, ([some a, some b, u, w] : St)[0]? = some (some a) := rfl
  show tSeq _ _ _ ([some (.ref a), some (.int m), none, none] : St) H
  have L1 : SqL K H a (rowL s i z r) := .inl (.inl h1)
  refine vl_if (vl_I0 (vl_ixL (j := 3) L1 rfl (vl_var rfl) vl_c) vl_c) (fun hb => ?_) fun hb => ?_
  · have hb : 0 < r := of_decide_eq_true hb
    obtain ⟨j, hj, ej⟩ := emod_nat (i := r) m0
    refine vl_asg (vl_I (int1 (vl_ixL (j := 3) L1 rfl (vl_var rfl) vl_c)) (vl_var rfl) (show (0 : Int) < m by omega)) ?_
    rw [ej]
    refine vl_set (i := 0) (j := 3) (xs := rowL s i z r) (vl_I (vl_ixL (j := 3) L1 rfl (vl_var rfl) vl_c) (vl_var rfl) ⟨by omega, by omega⟩) rfl h1 (Nat.le_of_ble_eq_true rfl) ?_
    exact vl_ret (vl_var rfl) (k j _ hj (ex_row hR hi))
  · obtain ⟨n, rfl⟩ : ∃ n : Nat, i = n := ⟨i.toNat, by omega⟩
    refine vl_set (i := 0) (j := 1) (xs := rowL s n z r) (vl_I0 (vl_ixL (j := 1) L1 rfl (vl_var rfl) vl_c) vl_c) rfl h1 (Nat.le_of_ble_eq_true rfl) ?_
    have e1 : Ex K B H (upd H a (.lst (rowL s ((n : Int) + 1) z r))) := ex_row hR (by omega)
    have hR1 := e1.rw _ _ _ hR
    have L2 : SqL K (upd H a (.lst (rowL s ((n : Int) + 1) z r))) a (rowL s ((n : Int) + 1) z r) := .inl (.inl upd_same)
    have hs1 := hR1.2
    refine vl_if (vl_I0 (vl_ixL (j := 1) L2 rfl (vl_var rfl) vl_c) (vl_cb (vl_ixL (j := 0) L2 rfl (vl_var rfl) vl_c) fun Q q => ⟨s, ns.map V.int, rfl, .inl hs1, q⟩)) (fun hb => ?_) fun hb => ?_
    · refine vl_set (i := 0) (j := 2) (xs := rowL s ((n : Int) + 1) z r) (vl_I (int1 (vl_I0 (vl_I (vl_ixL (j := 2) L2 rfl (vl_var rfl) vl_c) vl_c (.inr ⟨by omega, by omega⟩)) vl_c)) vl_c (show (0 : Int) < 2147483647 by omega)) rfl upd_same (Nat.le_of_ble_eq_true rfl) ?_
      have e2 : Ex K B _ (upd (upd H a (.lst (rowL s ((n : Int) + 1) z r))) a (.lst (rowL s ((n : Int) + 1) ((z * 48271 + 11) % 2147483647) r))) := ex_row hR1 (by omega)
      have L3 : SqL K (upd (upd H a (.lst (rowL s ((n : Int) + 1) z r))) a (.lst (rowL s ((n : Int) + 1) ((z * 48271 + 11) % 2147483647) r))) a (rowL s ((n : Int) + 1) ((z * 48271 + 11) % 2147483647) r) := .inl (.inl upd_same)
      obtain ⟨j, hj, ej⟩ := emod_nat (i := ((z * 48271 + 11) % 2147483647) / 7) m0
      refine vl_ret (vl_I (int1 (vl_I (vl_ixL (j := 2) L3 rfl (vl_var rfl) vl_c) vl_c ⟨by omega, by omega⟩)) (vl_var rfl) (show (0 : Int) < m by omega)) ?_
      rw [ej]
      exact k j _ hj (e1.trans e2)
    · have hb : ¬ ((ns.map V.int).length : Int) < (n : Int) + 1 := of_decide_eq_false hb
      have hn : n < ns.length := by
        rw [List.length_map] at hb
        omega
      have ixe : Vl (tOp (rI0 fun i j => V.int (i - j)) (tOp (rIxL K) (tVar 0) (tC (V.int 1))) (tC (V.int 1))) ([some (.ref a), some (.int m), none, none] : St) (upd H a (.lst (rowL s ((n : Int) + 1) z r))) (.int ((n : Nat) : Int)) := by
        have q := vl_I0 (g := fun i j => V.int (i - j)) (vl_ixL (σ := ([some (.ref a), some (.int m), none, none] : St)) (j := 1) L2 rfl (vl_var (i := 0) rfl) vl_c) (vl_c (v := .int 1))
        have e : (n : Int) + 1 - 1 = n := by omega
        simp only [e] at q
        exact q
      refine vl_asg (vl_ixL (j := n) (v := .int ns[n]) hs1 (by rw [List.getElem?_map, List.getElem?_eq_getElem hn]; rfl) (vl_ixL (j := 0) L2 rfl (vl_var rfl) vl_c) ixe) ?_
      refine vl_set (i := 0) (j := 2) (xs := rowL s ((n : Int) + 1) z r) (vl_I (int1 (vl_I0 (vl_I0 (vl_I (vl_ixL (j := 2) L2 rfl (vl_var rfl) vl_c) vl_c (.inr ⟨by omega, by omega⟩)) (vl_var rfl)) vl_c)) vl_c (show (0 : Int) < 2147483647 by omega)) rfl upd_same (Nat.le_of_ble_eq_true rfl) ?_
      have e2 : ∀ z', Ex K B _ (upd (upd H a (.lst (rowL s ((n : Int) + 1) z r))) a (.lst (rowL s ((n : Int) + 1) z' r))) := fun z' => ex_row hR1 (by omega)
      obtain ⟨j, hj, ej⟩ := emod_nat (i := ns[n]) m0
      have fin : ∀ H2, Ex K B H H2 → ∀ {u : Option V}, tRet (tOp (rI (fun x j => 0 < j) fun i j => V.int (i % j)) (tCB (fun xs H Q => (∃ i, xs = [V.int i] ∧ Q (V.int i) H) ∨ ∃ k, xs = [V.bl k] ∧ Q (V.int (if k = true then 1 else 0)) H) (tCons (tVar 3) tNil)) (tVar 1)) { nx := fun _ H' => Q .non H', rt := Q } ([some (.ref a), some (.int m), u, some (.int ns[n])] : St) H2 := fun H2 e u => by
        refine vl_ret (vl_I (int1 (vl_var rfl)) (vl_var rfl) (show (0 : Int) < m by omega)) ?_
        rw [ej]
        exact k j _ hj e
      refine vl_if (vl_I0 (vl_var rfl) (vl_I vl_c vl_c ⟨by decide, by decide, by decide⟩)) (fun hb2 => ?_) fun hb2 => ?_
      · refine vl_setS (i := 0) (j := 3) (xs := rowL s ((n : Int) + 1) _ r) (vl_I (vl_var rfl) (vl_var rfl) ⟨by omega, by omega⟩) rfl upd_same (Nat.le_of_ble_eq_true rfl) ?_
        exact fin _ ((e1.trans (e2 _)).trans (ex_row ((e2 _).rw _ _ _ hR1) (by omega)))
      · exact fin _ (e1.trans (e2 _))
end
end NB
set_option maxHeartbeats 2000000
/-! what is drawn: values known by a property -/
namespace NB
open PySem PySem.Spec PyProof.Rows L2
def EvP (K : PySem.W.Frag) (B : Tbs) (te : TE) (Γ : Ga) (H : Hp) (R : PyData → Prop) : Prop :=
  ∀ σ H1, Env B σ H1 Γ → Ex K B H H1 → ∀ Q : VK, (∀ d v H2, R d → Ex K B H1 H2 → Is H2 v d → Q v H2) → te σ H1 Q
def EvNP (K : PySem.W.Frag) (B : Tbs) (te : TE) (Γ : Ga) (H : Hp) (R : List PyData → Prop) : Prop :=
  ∀ σ H1, Env B σ H1 Γ → Ex K B H H1 → ∀ Q : VK, (∀ ds p vs H2, R ds → H1 p = none → Ex K B H1 H2 → H2 p = some (.lst vs) → IsAll H2 vs ds → Q (.ref p) H2) → te σ H1 Q
section
variable {P : Program} {w : World} {K : PySem.W.Frag} {mg : Str → Option Value} {base : Heap} {B : Tbs} {Γ : Ga} {σ : St} {H H' : Hp} {te ta tb : TE} {D : Ends} {tz tu tw : TS} {x y v : V} {r : R2} {R R' : PyData → Prop} {d : PyData} {ds : List PyData}
theorem Ev.p (h : Ev K B te Γ H (.d d)) (hr : R d) : EvP K B te Γ H R := fun σ H1 E e Q q => h σ H1 E e _ fun v H2 e2 v2 => q d v H2 hr e2 v2
theorem ep_op {s1 : Sl} (ha : Ev K B ta Γ H s1) (hb : EvP K B tb Γ H R) (hr : ∀ d, R d → ∃ d', R' d' ∧ ∀ H1, Op2 K B r s1 (.d d) H1 (.d d')) : EvP K B (tOp r ta tb) Γ H R' := fun σ H1 E e Q q =>
  ha σ H1 E e _ fun x H2 e2 x2 => hb σ H2 (E.mono e2) (e.trans e2) _ fun d y H3 rd e3 y3 => by
    obtain ⟨d', h1, h2⟩ := hr d rd
    exact h2 H3 x y H3 (e3.tb (e2.tb E.tb)) (Ex.refl K H3) (x2.mono e3) y3 Q fun v H4 e4 v4 => q d' v H4 h1 ((e2.trans e3).trans e4) v4
theorem ep_opL {s1 : Sl} (ha : EvP K B ta Γ H R) (hb : Ev K B tb Γ H s1) (hr : ∀ d, R d → ∃ d', R' d' ∧ ∀ H1, Op2 K B r (.d d) s1 H1 (.d d')) : EvP K B (tOp r ta tb) Γ H R' := fun σ H1 E e Q q =>
  ha σ H1 E e _ fun d x H2 rd e2 x2 => hb σ H2 (E.mono e2) (e.trans e2) _ fun y H3 e3 y3 => by
    obtain ⟨d', h1, h2⟩ := hr d rd
    exact h2 H3 x y H3 (e3.tb (e2.tb E.tb)) (Ex.refl K H3) (Is.mono e3 x2) y3 Q fun v H4 e4 v4 => q d' v H4 h1 ((e2.trans e3).trans e4) v4
def ROk (K : PySem.W.Frag) (Γ : Ga) (i : Nat) (H : Hp) : Prop := ∃ a s ns, Γ[i]? = some (some (.r a)) ∧ RowAt K H a s ns
theorem ep_taken {i m : Nat} (hi : ROk K Γ i H) (h : Ev K B te Γ H (.d (nD m))) (h0 : 0 < m) (h1 : m < 1000000) : EvP K B (tCall (spT K B) [] E0 (tCons (tVar i) (tCons te tNil))) Γ H fun d => ∃ j, j < m ∧ d = nD j := fun σ H1 E e Q q => by
  obtain ⟨a, s, ns, h2, h3⟩ := hi
  refine ⟨_, E.slot h2, h σ H1 E e _ fun v H2 e2 v2 => ?_⟩
  cases (show Is H2 v (.int (m : Int)) from v2)
  exact ⟨e2.tb E.tb, a, s, ns, m, rfl, (e.trans e2).rw _ _ _ h3, h0, h1, fun j H3 hj e3 => q (nD j) _ H3 ⟨j, hj, rfl⟩ (e2.trans e3) (.int _)⟩
theorem s_retP (E : Env B σ H Γ) (h : EvP K B te Γ H R) (k : ∀ d v H1, R d → Ex K B H H1 → Is H1 v d → D.rt v H1) : tRet te D σ H := h σ H E (Ex.refl K H) _ k
theorem q_asgP {i : Nat} (E : Env B σ H Γ) (h : EvP K B te Γ H R) (k : ∀ d v H1, R d → Ex K B H H1 → Is H1 v d → Env B (σ.set i (some v)) H1 (Γ.set i (some (.d d))) → tz D (σ.set i (some v)) H1) : tSeq (tAsg te (gName i)) tz D σ H := h σ H E (Ex.refl K H) _ fun d v H1 rd e1 v1 => k d v H1 rd e1 v1 ((E.mono e1).set (s := .d d) v1)
/-! ### pick -/
def spPick (K : PySem.W.Frag) (B : Tbs) : Sp := fun vs H Q _ => TbOk B H ∧ ∃ a s ns v ds, vs = [.ref a, v] ∧ RowAt K H a s ns ∧ Is H v (.list ds) ∧ ds ≠ [] ∧ ds.length < 1000000 ∧ ∀ d v' H', d ∈ ds → Ex K B H H' → Is H' v' d → Q v' H'
abbrev PPick (P : Program) (w : World) (K : PySem.W.Frag) (mg : Str → Option Value) (base : Heap) (B : Tbs) : Prop := Pr P w K mg base 2 "_law_pick" ["_law_row", "_law_things"] (spPick K B)
theorem env_start2 {B : Tbs} {H : Hp} {N : List Str} {vs : List V} (ss : List Sl) (tb : TbOk B H) (h : SlsOk H ss vs) (hl : ss.length ≤ N.length) : Env B (L2.start N vs) H (ss.map some ++ List.replicate (N.length - ss.length) none) := env_start tb h (by
  have : vs.length = ss.length := by
    clear hl
    induction h with
    | nil => rfl
    | cons a b ih => simp [ih]
  omega)
theorem pr_law_pick (D : Dd K mg "_law_pick" s_law_pick) (G : Bl mg) (Dt : PTak P w K mg base B) : PPick P w K mg base B := by
  refine pr_of D sc_law_pick (b2 fun _ _ _ _ _ _ _ _ => rfl) (fun vs H Q E ⟨_, a, s, ns, m, ds, h, _⟩ => by rw [h]; rfl) fun f cdv A outer s0 H vs Q E hr h => ⟨_, (wt_law_pick G Dt hr).2, ?_⟩
  obtain ⟨tb, a, s, ns, v, ds, rfl, hR, hv, hne, hz, k⟩ := h
  have E0 := env_start2 (N := N_law_pick) [.r a, .d (.list ds)] tb (.cons rfl (.cons hv .nil)) (Nat.le_of_ble_eq_true rfl)
  unfold wt_law_pick
  dsimp only [List.map]
  have hp : 0 < ds.length := List.length_pos_iff.mpr hne
  refine s_retP (K := K) (R := fun d => d ∈ ds) E0 (ep_op (ev_var (i := 1) (s := .d (.list ds)) rfl) (ep_taken (i := 0) ⟨a, s, ns, rfl, hR⟩ (ev_len (ev_var (i := 1) (s := .d (.list ds)) rfl)) hp hz) fun d ⟨j, hj, e⟩ => ⟨ds[j], List.getElem_mem hj, fun H1 => by rw [e]; exact o_ixD (List.getElem?_eq_getElem hj)⟩) fun d v H2 hd e2 v2 => k d v H2 hd e2 v2
/-! ### a drawn turn -/
def spTurn (K : PySem.W.Frag) (B : Tbs) : Sp := fun vs H Q _ => TbOk B H ∧ ∃ a s ns, ∃ n : Nat, vs = [.ref a, .int n] ∧ RowAt K H a s ns ∧ n ≤ 8 ∧ ∀ t v H', IsTn n t → Ex K B H H' → Is H' v (tD t) → Q v H'
abbrev PLTurn (P : Program) (w : World) (K : PySem.W.Frag) (mg : Str → Option Value) (base : Heap) (B : Tbs) : Prop := Pr P w K mg base 2 "_law_turn" ["_law_row", "_law_halls"] (spTurn K B)
theorem IsAll.erase {us : List V} (h : IsAll H us ds) (j : Nat) : IsAll H (us.eraseIdx j) (ds.eraseIdx j) := by
  induction ds generalizing us j with
  | nil => cases h; exact .nil
  | cons c ds ih =>
    cases h with
    | cons a b =>
      cases j with
      | zero => exact b
      | succ j => exact .cons a (ih b j)
theorem erase_perm {l : List Nat} {j : Nat} (hj : j < l.length) : (l[j] :: l.eraseIdx j).Perm l := by
  induction l generalizing j with
  | nil => simp at hj
  | cons a l ih =>
    cases j with
    | zero => exact List.Perm.refl _
    | succ j =>
      have h : j < l.length := by simpa using hj
      exact (List.Perm.swap _ _ _).trans ((ih h).cons a)
theorem map_eraseIdx {α β : Type} (f : α → β) : ∀ (l : List α) (i : Nat), (l.map f).eraseIdx i = (l.eraseIdx i).map f
  | [], _ => rfl
  | _ :: _, 0 => rfl
  | a :: l, i + 1 => by
    show f a :: (l.map f).eraseIdx i = f a :: (l.eraseIdx i).map f
    rw [map_eraseIdx f l i]
theorem seqIx_nat {n j : Nat} (h : j < n) : seqIndex? (j : Int) n = some j := (ixN_seq (ixN_nat h)).1
theorem pr_law_turn (D : Dd K mg "_law_turn" s_law_turn) (G : Bl mg) (Dt : PTak P w K mg base B) : PLTurn P w K mg base B := by
  refine pr_of D sc_law_turn (b2 fun _ _ _ _ _ _ _ _ => rfl) (fun vs H Q E ⟨_, a, s, ns, m, h, _⟩ => by rw [h]; rfl) fun f cdv A outer s0 H vs Q E hr h => ⟨_, (wt_law_turn G Dt hr).2, ?_⟩
  obtain ⟨tb, a, s, ns, n, rfl, hR, n8, k⟩ := h
  have E0 := env_start2 (N := N_law_turn) [.r a, .d (nD n)] tb (.cons rfl (.cons (.int _) .nil)) (Nat.le_of_ble_eq_true rfl)
  unfold wt_law_turn
  dsimp only [List.map]
  refine q_parDN (K := K) (s := .d (tD [])) (es := (List.range n).map nD) E0 (ev_tup (ds := []) ea_nil (Nat.le_of_ble_eq_true rfl)) (fun H1 _ => en_lstRg (n := n) (ev_var (i := 1) rfl) (by omega)) fun v1 p H1 hp e1 L1 E1 => ?_
  refine q_while (K := K) (B := B) (fun m σ' H' => ∃ found left : List Nat, (found ++ left).Perm (List.range n) ∧ Ex K B H H' ∧ Lo H' p (left.map nD) ∧ Env B σ' H' [some (.r a), some (.d (nD n)), some (.d (tD found)), some (.r p)] ∧ m = left.length) _ ⟨[], List.range n, List.Perm.refl _, e1, L1, E1, rfl⟩ ?_
  rintro m σ2 H2 ⟨found, left, hperm, e2, L2, E2, rfl⟩
  have hlen : found.length + left.length = n := by
    have := hperm.length_eq
    simpa using this
  refine ⟨_, _, E2, et_test (ev_op (ev_varL (i := 3) rfl L2 (row_nD _)) (EvN.ev (en_lst ea_nil (Nat.le_of_ble_eq_true rfl)) rfl) (o_neD ((shp_lN _).ok (by decide)) ((shp_lN []).ok (by decide)))), fun hb H3 e3 E3 => ?_, fun hb H3 e3 E3 => ?_⟩
  · have hl0 : 0 < left.length := by
      rw [List.map_nil, eqv_nil] at hb
      cases left with
      | nil => simp at hb
      | cons x y => simp
    have L3 := L2.mono (row_nD _) e3
    obtain ⟨vt, hvt, ivt⟩ := E3.at_ 2 (.d (tD found)) rfl
    obtain ⟨pt, rfl, rdt⟩ := is_tD ivt
    refine ⟨_, hvt, ?_⟩
    refine ⟨_, E3.slot (i := 3) rfl, .inl ⟨rfl, ?_⟩, ?_⟩
    · obtain ⟨us, h1, _⟩ := L3
      exact ⟨us, .inl (.inl h1)⟩
    refine ep_taken (K := K) (B := B) (i := 0) (m := left.length) ⟨a, s, ns, rfl, (e2.trans e3).rw _ _ _ hR⟩ ((ev_len (ev_varL (i := 3) rfl L3 (row_nD _))).to (by rw [List.length_map])) hl0 (by omega) _ H3 E3 (Ex.refl K H3) _ fun d vj H4 ⟨j, hj, ej⟩ e4 ij => ?_
    subst ej
    cases (show Is H4 vj (.int (j : Int)) from ij)
    obtain ⟨us, h1, h2⟩ := L3.mono (row_nD _) e4
    have ul : us.length = left.length := by rw [h2.len, List.length_map]
    obtain ⟨vy, hvy, ivy⟩ := h2.at (i := j) (d := nD left[j]) (by rw [List.getElem?_map, List.getElem?_eq_getElem hj]; rfl)
    cases (show Is H4 vy (.int (left[j] : Int)) from ivy)
    refine ⟨p, us, (j : Int), j, _, rfl, rfl, h1, by omega, by omega, seqIx_nat (by omega), hvy, ?_⟩
    have np : ∀ xs, ¬ Rd H4 p (.tup xs) := plain_nt (by rw [h1]; trivial)
    refine ⟨lenline (by simp), fun q1 hq1 => ?_⟩
    have m5 : Mt K B H3 p (upd H4 p (.lst (us.eraseIdx j))) := ⟨H4, _, e4, by rw [h1]; trivial, rfl⟩
    have L5 : Lo (upd H4 p (.lst (us.eraseIdx j))) p ((left.eraseIdx j).map nD) := by
      rw [← map_eraseIdx]
      refine upd_lo (h2.erase j) ?_ np
      rw [map_eraseIdx]
      exact lf_nats _
    have e6 : Ex K B (upd H4 p (.lst (us.eraseIdx j))) (upd (upd H4 p (.lst (us.eraseIdx j))) q1 (.tup [.int (left[j] : Int)])) := Ex.new hq1
    have rd6 : Rd (upd (upd H4 p (.lst (us.eraseIdx j))) q1 (.tup [.int (left[j] : Int)])) pt (.tup (found.map nV)) := e6.rd (m5.tk _ _ rdt)
    have rq : Rd (upd (upd H4 p (.lst (us.eraseIdx j))) q1 (.tup [.int (left[j] : Int)])) q1 (.tup ([left[j]].map nV)) := .inl upd_same
    have E6 := (m5.env E3 (by simp [lfO, lfS, lf, lf_tD])).mono e6
    have ex6 : Ex K B H _ := (m5.ex (e2.trans e3) hp).trans e6
    have L6 := L5.mono (row_nD _) e6
    have hperm2 : ((found ++ [left[j]]) ++ left.eraseIdx j).Perm (List.range n) := by
      refine List.Perm.trans ?_ hperm
      rw [List.append_assoc]
      exact List.Perm.append_left _ (erase_perm hj)
    have el : (left.eraseIdx j).length < left.length := by
      rw [List.length_eraseIdx, if_pos hj]
      omega
    have fin : ∀ q H7, Ex K B (upd (upd H4 p (.lst (us.eraseIdx j))) q1 (.tup [.int (left[j] : Int)])) H7 → Rd H7 q (.tup ((found ++ [left[j]]).map nV)) → ∃ m', m' < left.length ∧ ∃ found left : List Nat, (found ++ left).Perm (List.range n) ∧ Ex K B H H7 ∧ Lo H7 p (left.map nD) ∧ Env B (σ2.set 2 (some (.ref q))) H7 [some (.r a), some (.d (nD n)), some (.d (tD found)), some (.r p)] ∧ m' = left.length := fun q H7 e7 r7 =>
      ⟨_, el, _, _, hperm2, ex6.trans e7, L6.mono (row_nD _) e7, (E6.mono e7).set (i := 2) (s := .d (tD (found ++ [left[j]]))) (tD_is r7), rfl⟩
    refine ⟨pt, q1, found.map nV, [left[j]].map nV, rfl, rfl, .inl rd6, .inl rq, lenline (by simp; omega), fun z => ?_, fun _ z => (by cases z), fun _ _ q hq => ?_⟩
    · have hf : found = [] := List.map_eq_nil_iff.mp z
      refine fin q1 _ (Ex.refl K _) ?_
      rw [hf]
      exact rq
    · refine fin q _ (Ex.new hq) (.inl ?_)
      rw [upd_same, List.map_append]
  · rw [List.map_nil, eqv_nil] at hb
    have hl : left = [] := by
      cases left with
      | nil => rfl
      | cons x y => simp at hb
    subst hl
    rw [List.append_nil] at hperm
    exact s_ret (K := K) E3 (ev_var (i := 2) rfl) fun v H4 e4 v4 => k found v H4 hperm ((e2.trans e3).trans e4) v4
end
end NB
set_option maxHeartbeats 2000000
/-! the drawn house -/
namespace NB
open PySem PySem.Spec PyProof.Rows L2
section
variable {P : Program} {w : World} {K : PySem.W.Frag} {mg : Str → Option Value} {base : Heap} {B : Tbs} {Γ : Ga} {σ : St} {H H' : Hp} {te ta tb : TE} {D : Ends} {tz tu tw : TS} {x y v : V} {r : R2} {R R' : PyData → Prop} {d : PyData} {ds es : List PyData}
def circ (n k : Nat) : Tn := (List.range n).map fun h => (h + k) % n
abbrev PCirc (P : Program) (w : World) (K : PySem.W.Frag) (mg : Str → Option Value) (base : Heap) (B : Tbs) : Prop := Pr P w K mg base 1 "_law_circle" ["_law_halls", "_law_step"] (spD K B fun ds d => ∃ n k, ds = [nD n, nD k] ∧ d = tD (circ n k) ∧ 0 < n ∧ n ≤ 8)
theorem pr_law_circle (D : Dd K mg "_law_circle" s_law_circle) (G : Bl mg) : PCirc P w K mg base B := by
  refine pr_of D sc_law_circle (b2 fun _ _ _ _ _ _ _ _ => rfl) (spD_len (n := 2) fun ds d ⟨_, _, h, _⟩ => by rw [h]; rfl) fun f cdv A outer s H vs Q E hr h => ⟨_, (wt_law_circle G hr).2, ?_⟩
  obtain ⟨tb, ds, d, hI, ⟨n, kk, rfl, rfl, n0, n8⟩, k⟩ := h
  have E0 := env_start (N := N_law_circle) tb (slsOk_data hI) (by rw [hI.len]; exact Nat.le_of_ble_eq_true rfl)
  unfold wt_law_circle
  dsimp only [List.map]
  refine s_ret (K := K) E0 ((ev_tupN (ds := (circ n kk).map nD) ((en_lcY (enc := nD) (xs := List.range n) (val := fun h => nD ((h + kk) % n)) (G' := fun h => [some (.d (nD n)), some (.d (nD kk)), some (.d (nD h))]) (src_R (n := n) (ev_var (i := 0) rfl) (by omega)) (by simp; omega) (fun h _ => tgt_name (j := 2) (wipe1 2))
    (fun h _ => ⟨(ev_op (ev_op (ev_var (i := 2) (s := .d (nD h)) rfl) (ev_var (i := 1) (s := .d (nD kk)) rfl) o_I0) (ev_var (i := 0) (s := .d (nD n)) rfl) (o_I (show (0 : Int) < n by omega))).to ?_, rfl⟩) (hom_int fun d ⟨x, _, e⟩ => ⟨_, e⟩)).to ?_) (row_nD _)).to (e := tD (circ n kk)) rfl) fun v H1 e1 v1 => k v H1 e1 v1
  · show PyData.int (((h : Int) + (kk : Int)) % (n : Int)) = PyData.int (((h + kk) % n : Nat) : Int)
    rw [Int.natCast_emod, Int.natCast_add]
  · unfold circ
    rw [List.map_map]
    rfl
/-! ### the known groups -/
abbrev KG0 : List (Nat × List Tn) := [(2, [[1, 0]]), (3, [[1, 2, 0]]), (3, [[1, 2, 0], [0, 2, 1]])]
abbrev KG1 : List (Nat × List Tn) := KG0 ++ [(4, [circ 4 1]), (4, [[1, 0, 3, 2], [2, 3, 0, 1]])]
abbrev KG2 : List (Nat × List Tn) := KG1 ++ [(4, [[1, 2, 0, 3], [1, 0, 3, 2]]), (4, [circ 4 1, [0, 3, 2, 1]])]
abbrev KG3 : List (Nat × List Tn) := KG2 ++ [(4, [[1, 2, 3, 0], [1, 0, 2, 3]])]
abbrev KG4 : List (Nat × List Tn) := KG3 ++ [(5, [circ 5 1]), (5, [circ 5 1, [0, 4, 3, 2, 1]])]
abbrev KG5 : List (Nat × List Tn) := KG4 ++ [(5, [circ 5 1, [0, 2, 4, 1, 3]])]
abbrev KG6 : List (Nat × List Tn) := KG5 ++ [(5, [[1, 2, 0, 3, 4], [0, 1, 3, 4, 2]]), (6, [circ 6 1])]
abbrev KG7 : List (Nat × List Tn) := KG6 ++ [(6, [circ 6 1, [0, 5, 4, 3, 2, 1]])]
abbrev KG8 : List (Nat × List Tn) := KG7 ++ [(6, [[1, 2, 0, 4, 5, 3], [3, 5, 4, 0, 2, 1]]), (6, [[1, 2, 3, 4, 0, 5], [5, 4, 2, 3, 1, 0]])]
abbrev KG9 : List (Nat × List Tn) := KG8 ++ [(7, [circ 7 1, [0, 2, 4, 6, 1, 3, 5]])]
abbrev KG10 : List (Nat × List Tn) := KG9 ++ [(7, [circ 7 1, [0, 3, 6, 2, 5, 1, 4]]), (7, [circ 7 1])]
abbrev KG11 : List (Nat × List Tn) := KG10 ++ [(8, [circ 8 1]), (8, [[1, 0, 3, 2, 5, 4, 7, 6], [0, 2, 4, 6, 3, 1, 7, 5]])]
abbrev KG12 : List (Nat × List Tn) := KG11 ++ [(8, [[1, 2, 3, 0, 5, 6, 7, 4], [4, 7, 6, 5, 2, 1, 0, 3]])]
abbrev KG13 : List (Nat × List Tn) := KG12 ++ [(8, [circ 8 1, [0, 7, 6, 5, 4, 3, 2, 1]])]
abbrev KG : List (Nat × List Tn) := KG13
abbrev hP (p : Nat × List Tn) : PyData := hD p.1 p.2
theorem row_hP (l : List (Nat × List Tn)) : rowD (l.map hP) = false := hom_row (P := fun d => ∃ t, d = PyData.tuple t) (.inr fun d ⟨t, e⟩ => by rw [e]; rfl) fun d hd => by
  obtain ⟨t, _, e⟩ := List.mem_map.mp hd
  exact ⟨_, e.symm⟩
theorem en_cat (ha : Ev K B ta Γ H (.d (.list ds))) (hb : ∀ H1, Ex K B H H1 → EvN K B tb Γ H1 es) (hz : ds.length + es.length ≤ 1000) : EvN K B (tOp rCat ta tb) Γ H (ds ++ es) := fun σ H1 E e Q q =>
  ha σ H1 E e _ fun v H2 e2 v2 => hb H2 (e.trans e2) σ H2 (E.mono e2) (Ex.refl K H2) _ fun p us H3 hp e3 h3 i3 => by
    cases Is.mono e3 (show Is H2 v (.list ds) from v2) with
    | @lst a ws _ h4 nr h5 => exact ⟨a, p, ws, us, rfl, rfl, h4, h3, lenline (by rw [h5.len, i3.len]; exact hz), fun q' hq' => q q' _ _ ((e2.trans e3).sm _ hq') ((e2.trans e3).trans (Ex.new hq')) upd_same ((h5.mono (Ex.new (K := K) (B := B) hq')).app (i3.mono (Ex.new (K := K) (B := B) hq')))⟩
abbrev PKnown (P : Program) (w : World) (K : PySem.W.Frag) (mg : Str → Option Value) (base : Heap) (B : Tbs) : Prop := Pr P w K mg base 2 "_law_known_groups" [] (spN K B fun ds es => ds = [] ∧ es = KG.map hP)
theorem pr_law_known (D : Dd K mg "_law_known_groups" s_law_known_groups) (G : Bl mg) (Dc : PCirc P w K mg base B) : PKnown P w K mg base B := by
  refine pr_of D sc_law_known_groups (b0 fun _ _ _ _ _ _ => rfl) (spN_len (n := 0) fun ds d ⟨h, _⟩ => by rw [h]; rfl) fun f cdv A outer s H vs Q E hr h => ⟨_, (wt_law_known_groups G Dc hr).2, ?_⟩
  obtain ⟨tb, ds, d, hI, ⟨rfl, rfl⟩, k⟩ := h
  have E0 := env_start (N := N_law_known_groups) tb (slsOk_data hI) (by rw [hI.len]; exact Nat.le_of_ble_eq_true rfl)
  unfold wt_law_known_groups
  dsimp only [List.map]
  have ec : ∀ {Γ : Ga} {H : Hp} (n k : Nat), 0 < n → n ≤ 8 → Ev K B (tCall (spD K B fun ds d => ∃ n k, ds = [nD n, nD k] ∧ d = tD (circ n k) ∧ 0 < n ∧ n ≤ 8) [] L2.E0 (tCons (tC (.int (n : Int))) (tCons (tC (.int (k : Int))) tNil))) Γ H (.d (tD (circ n k))) := fun n k h0 h8 => ev_call (ds := [nD n, nD k]) (ea2 ev_int ev_int) ⟨n, k, rfl, rfl, h0, h8⟩
  refine q_asgN (K := K) (i := 0) (ds := KG0.map hP) E0 (en_lst (by
    repeat (first | exact ea_nil | exact ev_int | exact ec _ _ (by decide) (by decide) | refine ea_cons ?_ ?_ | refine ev_tup ?_ (by decide))) (by decide)) fun p us H1 hp e1 h1 i1 E1 => ?_
  have L1 : Lo H1 p (KG0.map hP) := ⟨us, h1, i1⟩
  have e01 := e1
  refine q_asgN (K := K) (i := 0) E1 ((en_cat (ev_varL (i := 0) rfl L1 (row_hP _)) (fun H' _ => en_lst (ds := ([(4, [circ 4 1]), (4, [[1, 0, 3, 2], [2, 3, 0, 1]])] : List (Nat × List Tn)).map hP) (by
    repeat (first | exact ea_nil | exact ev_int | exact ec _ _ (by decide) (by decide) | refine ea_cons ?_ ?_ | refine ev_tup ?_ (by decide))) (by decide)) (by decide)).to (e := KG1.map hP) List.map_append.symm) fun p1 us1 H2 hp1 e2 h2 i2 E2 => ?_
  have L2 : Lo H2 p1 (KG1.map hP) := ⟨us1, h2, i2⟩
  have e02 := e01.trans e2
  refine q_asgN (K := K) (i := 0) E2 ((en_cat (ev_varL (i := 0) rfl L2 (row_hP _)) (fun H' _ => en_lst (ds := ([(4, [[1, 2, 0, 3], [1, 0, 3, 2]]), (4, [circ 4 1, [0, 3, 2, 1]])] : List (Nat × List Tn)).map hP) (by
    repeat (first | exact ea_nil | exact ev_int | exact ec _ _ (by decide) (by decide) | refine ea_cons ?_ ?_ | refine ev_tup ?_ (by decide))) (by decide)) (by decide)).to (e := KG2.map hP) List.map_append.symm) fun p2 us2 H3 hp2 e3 h3 i3 E3 => ?_
  have L3 : Lo H3 p2 (KG2.map hP) := ⟨us2, h3, i3⟩
  have e03 := e02.trans e3
  refine q_asgN (K := K) (i := 0) E3 ((en_cat (ev_varL (i := 0) rfl L3 (row_hP _)) (fun H' _ => en_lst (ds := ([(4, [[1, 2, 3, 0], [1, 0, 2, 3]])] : List (Nat × List Tn)).map hP) (by
    repeat (first | exact ea_nil | exact ev_int | exact ec _ _ (by decide) (by decide) | refine ea_cons ?_ ?_ | refine ev_tup ?_ (by decide))) (by decide)) (by decide)).to (e := KG3.map hP) List.map_append.symm) fun p3 us3 H4 hp3 e4 h4 i4 E4 => ?_
  have L4 : Lo H4 p3 (KG3.map hP) := ⟨us3, h4, i4⟩
  have e04 := e03.trans e4
  refine q_asgN (K := K) (i := 0) E4 ((en_cat (ev_varL (i := 0) rfl L4 (row_hP _)) (fun H' _ => en_lst (ds := ([(5, [circ 5 1]), (5, [circ 5 1, [0, 4, 3, 2, 1]])] : List (Nat × List Tn)).map hP) (by
    repeat (first | exact ea_nil | exact ev_int | exact ec _ _ (by decide) (by decide) | refine ea_cons ?_ ?_ | refine ev_tup ?_ (by decide))) (by decide)) (by decide)).to (e := KG4.map hP) List.map_append.symm) fun p4 us4 H5 hp4 e5 h5 i5 E5 => ?_
  have L5 : Lo H5 p4 (KG4.map hP) := ⟨us4, h5, i5⟩
  have e05 := e04.trans e5
  refine q_asgN (K := K) (i := 0) E5 ((en_cat (ev_varL (i := 0) rfl L5 (row_hP _)) (fun H' _ => en_lst (ds := ([(5, [circ 5 1, [0, 2, 4, 1, 3]])] : List (Nat × List Tn)).map hP) (by
    repeat (first | exact ea_nil | exact ev_int | exact ec _ _ (by decide) (by decide) | refine ea_cons ?_ ?_ | refine ev_tup ?_ (by decide))) (by decide)) (by decide)).to (e := KG5.map hP) List.map_append.symm) fun p5 us5 H6 hp5 e6 h6 i6 E6 => ?_
  have L6 : Lo H6 p5 (KG5.map hP) := ⟨us5, h6, i6⟩
  have e06 := e05.trans e6
  refine q_asgN (K := K) (i := 0) E6 ((en_cat (ev_varL (i := 0) rfl L6 (row_hP _)) (fun H' _ => en_lst (ds := ([(5, [[1, 2, 0, 3, 4], [0, 1, 3, 4, 2]]), (6, [circ 6 1])] : List (Nat × List Tn)).map hP) (by
    repeat (first | exact ea_nil | exact ev_int | exact ec _ _ (by decide) (by decide) | refine ea_cons ?_ ?_ | refine ev_tup ?_ (by decide))) (by decide)) (by decide)).to (e := KG6.map hP) List.map_append.symm) fun p6 us6 H7 hp6 e7 h7 i7 E7 => ?_
  have L7 : Lo H7 p6 (KG6.map hP) := ⟨us6, h7, i7⟩
  have e07 := e06.trans e7
  refine q_asgN (K := K) (i := 0) E7 ((en_cat (ev_varL (i := 0) rfl L7 (row_hP _)) (fun H' _ => en_lst (ds := ([(6, [circ 6 1, [0, 5, 4, 3, 2, 1]])] : List (Nat × List Tn)).map hP) (by
    repeat (first | exact ea_nil | exact ev_int | exact ec _ _ (by decide) (by decide) | refine ea_cons ?_ ?_ | refine ev_tup ?_ (by decide))) (by decide)) (by decide)).to (e := KG7.map hP) List.map_append.symm) fun p7 us7 H8 hp7 e8 h8 i8 E8 => ?_
  have L8 : Lo H8 p7 (KG7.map hP) := ⟨us7, h8, i8⟩
  have e08 := e07.trans e8
  refine q_asgN (K := K) (i := 0) E8 ((en_cat (ev_varL (i := 0) rfl L8 (row_hP _)) (fun H' _ => en_lst (ds := ([(6, [[1, 2, 0, 4, 5, 3], [3, 5, 4, 0, 2, 1]]), (6, [[1, 2, 3, 4, 0, 5], [5, 4, 2, 3, 1, 0]])] : List (Nat × List Tn)).map hP) (by
    repeat (first | exact ea_nil | exact ev_int | exact ec _ _ (by decide) (by decide) | refine ea_cons ?_ ?_ | refine ev_tup ?_ (by decide))) (by decide)) (by decide)).to (e := KG8.map hP) List.map_append.symm) fun p8 us8 H9 hp8 e9 h9 i9 E9 => ?_
  have L9 : Lo H9 p8 (KG8.map hP) := ⟨us8, h9, i9⟩
  have e09 := e08.trans e9
  refine q_asgN (K := K) (i := 0) E9 ((en_cat (ev_varL (i := 0) rfl L9 (row_hP _)) (fun H' _ => en_lst (ds := ([(7, [circ 7 1, [0, 2, 4, 6, 1, 3, 5]])] : List (Nat × List Tn)).map hP) (by
    repeat (first | exact ea_nil | exact ev_int | exact ec _ _ (by decide) (by decide) | refine ea_cons ?_ ?_ | refine ev_tup ?_ (by decide))) (by decide)) (by decide)).to (e := KG9.map hP) List.map_append.symm) fun p9 us9 H10 hp9 e10 h10 i10 E10 => ?_
  have L10 : Lo H10 p9 (KG9.map hP) := ⟨us9, h10, i10⟩
  have e010 := e09.trans e10
  refine q_asgN (K := K) (i := 0) E10 ((en_cat (ev_varL (i := 0) rfl L10 (row_hP _)) (fun H' _ => en_lst (ds := ([(7, [circ 7 1, [0, 3, 6, 2, 5, 1, 4]]), (7, [circ 7 1])] : List (Nat × List Tn)).map hP) (by
    repeat (first | exact ea_nil | exact ev_int | exact ec _ _ (by decide) (by decide) | refine ea_cons ?_ ?_ | refine ev_tup ?_ (by decide))) (by decide)) (by decide)).to (e := KG10.map hP) List.map_append.symm) fun p10 us10 H11 hp10 e11 h11 i11 E11 => ?_
  have L11 : Lo H11 p10 (KG10.map hP) := ⟨us10, h11, i11⟩
  have e011 := e010.trans e11
  refine q_asgN (K := K) (i := 0) E11 ((en_cat (ev_varL (i := 0) rfl L11 (row_hP _)) (fun H' _ => en_lst (ds := ([(8, [circ 8 1]), (8, [[1, 0, 3, 2, 5, 4, 7, 6], [0, 2, 4, 6, 3, 1, 7, 5]])] : List (Nat × List Tn)).map hP) (by
    repeat (first | exact ea_nil | exact ev_int | exact ec _ _ (by decide) (by decide) | refine ea_cons ?_ ?_ | refine ev_tup ?_ (by decide))) (by decide)) (by decide)).to (e := KG11.map hP) List.map_append.symm) fun p11 us11 H12 hp11 e12 h12 i12 E12 => ?_
  have L12 : Lo H12 p11 (KG11.map hP) := ⟨us11, h12, i12⟩
  have e012 := e011.trans e12
  refine q_asgN (K := K) (i := 0) E12 ((en_cat (ev_varL (i := 0) rfl L12 (row_hP _)) (fun H' _ => en_lst (ds := ([(8, [[1, 2, 3, 0, 5, 6, 7, 4], [4, 7, 6, 5, 2, 1, 0, 3]])] : List (Nat × List Tn)).map hP) (by
    repeat (first | exact ea_nil | exact ev_int | exact ec _ _ (by decide) (by decide) | refine ea_cons ?_ ?_ | refine ev_tup ?_ (by decide))) (by decide)) (by decide)).to (e := KG12.map hP) List.map_append.symm) fun p12 us12 H13 hp12 e13 h13 i13 E13 => ?_
  have L13 : Lo H13 p12 (KG12.map hP) := ⟨us12, h13, i13⟩
  have e013 := e012.trans e13
  exact s_retN (K := K) E13 ((en_cat (ev_varL (i := 0) rfl L13 (row_hP _)) (fun H' _ => en_lst (ds := ([(8, [circ 8 1, [0, 7, 6, 5, 4, 3, 2, 1]])] : List (Nat × List Tn)).map hP) (by
    repeat (first | exact ea_nil | exact ev_int | exact ec _ _ (by decide) (by decide) | refine ea_cons ?_ ?_ | refine ev_tup ?_ (by decide))) (by decide)) (by decide)).to (e := KG13.map hP) List.map_append.symm) fun p' us' H' hp' e' h' i' => k p' us' H' (e013.sm _ hp') (e013.trans e') h' i'
end
end NB
set_option maxHeartbeats 2000000
/-! the drawn house: relabelled, or of drawn turns -/
namespace NB
open PySem PySem.Spec PyProof.Rows L2
section
variable {P : Program} {w : World} {K : PySem.W.Frag} {mg : Str → Option Value} {base : Heap} {B : Tbs} {Γ : Ga} {σ : St} {H H' : Hp} {te ta tb : TE} {D : Ends} {tz tu tw : TS} {x y v : V} {r : R2} {R R' : PyData → Prop} {d : PyData} {ds es : List PyData}
def filN (g : Tn) (val : Nat → Nat) (k : Nat) : List Nat := (List.range g.length).map fun h => if g.idxOf h < k then val (g.idxOf h) else 0
theorem filN_zero (g : Tn) (val : Nat → Nat) : filN g val 0 = List.replicate g.length 0 := by
  unfold filN
  simp [List.map_const']
theorem filN_step {n : Nat} {t : Tn} {val : Nat → Nat} (ht : IsTn n t) {k : Nat} (hk : k < t.length) : (filN t val k).set (t.getD k 0) (val k) = filN t val (k + 1) := by
  have hid : t.idxOf (t.getD k 0) = k := by
    have hm : t.getD k 0 ∈ t := getD_mem hk
    have hl := List.idxOf_lt_length_iff.mpr hm
    refine (List.getElem?_inj hl ht.nd).mp ?_
    rw [List.getElem?_eq_getElem hl, List.getElem?_eq_getElem hk, List.getElem_idxOf, List.getD_eq_getElem?_getD, List.getElem?_eq_getElem hk]
    rfl
  refine List.ext_getElem? fun i => ?_
  rw [List.getElem?_set]
  unfold filN
  rw [List.length_map, List.length_range, List.getElem?_map, List.getElem?_map]
  by_cases hi : i < t.length
  · rw [List.getElem?_range hi]
    simp only [Option.map_some]
    by_cases e : t.getD k 0 = i
    · rw [if_pos e, if_pos (by omega)]
      subst e
      rw [hid, if_pos (by omega)]
    · rw [if_neg e]
      have ne : t.idxOf i ≠ k := fun z => e (by
        have hm : i ∈ t := ht.mem.mpr (by rw [← ht.len]; exact hi)
        rw [List.getD_eq_getElem?_getD, List.getElem?_eq_getElem hk]
        have := List.getElem_idxOf (List.idxOf_lt_length_iff.mpr hm)
        simpa [z] using this)
      by_cases q : t.idxOf i < k
      · rw [if_pos q, if_pos (by omega)]
      · rw [if_neg q, if_neg (by omega)]
  · rw [List.getElem?_eq_none (by simp; omega)]
    simp only [Option.map_none]
    split
    · split
      · omega
      · rfl
    · rfl
theorem filN_full {n : Nat} {g t : Tn} (hg : IsTn n g) (ht : IsTn n t) : filN g (fun h => g.getD (t.getD h 0) 0) n = cnj g t := by
  unfold filN cnj thn bck
  rw [List.map_map, List.map_map]
  refine List.map_congr_left fun y hy => ?_
  have hm : y ∈ g := hg.mem.mpr (by rw [← hg.len]; exact List.mem_range.mp hy)
  have := List.idxOf_lt_length_iff.mpr hm
  rw [hg.len] at this
  rw [if_pos this]
  rfl
def spMix (K : PySem.W.Frag) (B : Tbs) : Sp := fun vs H Q _ => TbOk B H ∧ ∃ a s ns v n ts, vs = [.ref a, v] ∧ RowAt K H a s ns ∧ Is H v (hD n ts) ∧ HOkN n ts ∧ ∀ g v' H', IsTn n g → Ex K B H H' → Is H' v' (hD n (ts.map (cnj g))) → Q v' H'
abbrev PMix (P : Program) (w : World) (K : PySem.W.Frag) (mg : Str → Option Value) (base : Heap) (B : Tbs) : Prop := Pr P w K mg base 3 "_law_mixed" ["_law_row", "_law_house_here"] (spMix K B)
theorem ep_turn {i n : Nat} (hi : ROk K Γ i H) (h : Ev K B te Γ H (.d (nD n))) (n8 : n ≤ 8) : EvP K B (tCall (spTurn K B) [] E0 (tCons (tVar i) (tCons te tNil))) Γ H fun d => ∃ t, IsTn n t ∧ d = tD t := fun σ H1 E e Q q => by
  obtain ⟨a, s, ns, h2, h3⟩ := hi
  refine ⟨_, E.slot h2, h σ H1 E e _ fun v H2 e2 v2 => ?_⟩
  cases (show Is H2 v (.int (n : Int)) from v2)
  exact ⟨e2.tb E.tb, a, s, ns, n, rfl, (e.trans e2).rw _ _ _ h3, n8, fun t v' H3 ht e3 i3 => q (tD t) v' H3 ⟨t, ht, rfl⟩ (e2.trans e3) i3⟩
theorem q_parPN {i j : Nat} (E : Env B σ H Γ) (ha : EvP K B ta Γ H R) (hb : ∀ H1, Ex K B H H1 → EvN K B tb Γ H1 es)
    (k : ∀ d v q H', R d → H q = none → Ex K B H H' → Lo H' q es → Env B ((σ.set i (some v)).set j (some (.ref q))) H' ((Γ.set i (some (.d d))).set j (some (.r q))) → tz D ((σ.set i (some v)).set j (some (.ref q))) H') : tSeq (tPar i j (tCons ta (tCons tb tNil))) tz D σ H :=
  ha σ H E (Ex.refl K H) _ fun d v H1 rd e1 h1 => hb H1 e1 σ H1 (E.mono e1) (Ex.refl K H1) _ fun q us H2 hq e2 h2 i2 =>
    ⟨_, _, rfl, k d v q H2 rd (e1.sm q hq) (e1.trans e2) ⟨us, h2, i2⟩ ((((E.mono e1).mono e2).set (s := .d d) (Is.mono e2 h1)).set (s := .r q) rfl)⟩
theorem ev_tupL {te : TE} (h : Ev K B te Γ H (.d (.list ds))) : Ev K B (tCB (rTupOf K) (tCons te tNil)) Γ H (.d (.tuple ds)) := ev_cb (ea1 h) fun vs H1 t e hv Q q => by
  cases hv with
  | cons h1 h2 =>
    cases h2
    cases (show Is H1 _ (.list ds) from h1) with
    | lst a b c => exact ⟨_, _, rfl, .inl ⟨.inl (.inl a), fun l hl => q _ _ (Ex.new hl) (.tup (.inl upd_same) (c.mono (Ex.new (K := K) (B := B) hl)))⟩⟩
theorem pr_law_mixed (D : Dd K mg "_law_mixed" s_law_mixed) (G : Bl mg) (Dt : PLTurn P w K mg base B) : PMix P w K mg base B := by
  refine pr_of D sc_law_mixed (b2 fun _ _ _ _ _ _ _ _ => rfl) (fun vs H Q E ⟨_, a, s, ns, v, n, ts, h, _⟩ => by rw [h]; rfl) fun f cdv A outer s0 H vs Q E hr h => ⟨_, (wt_law_mixed G Dt hr).2, ?_⟩
  obtain ⟨tb, a, s, ns, v, n, ts, rfl, hR, hv, ho, k⟩ := h
  have E0 := env_start2 (N := N_law_mixed) [.r a, .d (hD n ts)] tb (.cons rfl (.cons hv .nil)) (Nat.le_of_ble_eq_true rfl)
  have n8 := ho.n8
  unfold wt_law_mixed
  dsimp only [List.map]
  have hn : ∀ {a b c d e f : Option Sl} H, Ev K B (tOp (rIxT K) (tVar 1) (tC (.int 0))) [a, some (.d (hD n ts)), b, c, d, e, f] H (.d (nD n)) := fun H => ev_op (ev_var (i := 1) (s := .d (hD n ts)) rfl) ev_int (o_ixT (j := 0) rfl)
  refine q_parPN (K := K) (es := []) E0 (ep_turn (i := 0) ⟨a, s, ns, rfl, hR⟩ (hn H) n8) (fun H1 _ => en_lst ea_nil (Nat.le_of_ble_eq_true rfl)) fun d g' p H1 ⟨g, hg, ed⟩ hp e1 L1 E1 => ?_
  subst ed
  have gl := hg.len
  refine q_forT (K := K) (B := B) (ds := ts.map tD) E1 (ev_op (ev_var (i := 1) (s := .d (hD n ts)) rfl) ev_int (o_ixT (j := 1) rfl)) (lf_tDs _) (fun i σ' H' => Ex K B H H' ∧ Lo H' p (((ts.take i).map (cnj g)).map tD) ∧ Env B σ' H' [some (.r a), some (.d (hD n ts)), some (.d (tD g)), some (.r p), none, none, none]) (fun H2 e2 E2 => ⟨e1.trans e2, L1.mono rfl e2, E2⟩) ?_ ?_
  · rintro i d v2 σ2 H2 hd iv ⟨e2, L2, E2⟩
    rw [List.getElem?_map] at hd
    obtain ⟨t, ht', rfl⟩ := Option.map_eq_some_iff.mp hd
    have ht := ho.ok t (List.mem_of_getElem? ht')
    have hi : i < ts.length := (List.getElem?_eq_some_iff.mp ht').1
    have t6 := ho.t6
    have E3 := E2.set (i := 4) (s := .d (tD t)) iv
    refine q_asgN (K := K) (i := 5) (ds := List.replicate n (nD 0)) E3 (en_rep (en_lst (ds := [nD 0]) (ea1 ev_int) (Nat.le_of_ble_eq_true rfl)) (fun H1 _ => hn H1) (by omega)) fun q us4 H4 hq e4 h4 i4 E4 => ?_
    have pq : p ≠ q := fun z => by
      obtain ⟨ws, h, _⟩ := L2
      rw [z, hq] at h
      cases h
    have L4 : Lo H4 q ((filN g (fun h => g.getD (t.getD h 0) 0) 0).map nD) := ⟨us4, h4, by rw [filN_zero, gl, List.map_replicate]; exact i4⟩
    refine q_forR (K := K) (B := B) (n := n) E4 (hn H4) (by omega) (fun kx σ' H' => Ex K B H H' ∧ Tk H2 H' ∧ Lo H' p (((ts.take i).map (cnj g)).map tD) ∧ Lo H' q ((filN g (fun h => g.getD (t.getD h 0) 0) kx).map nD) ∧ Env B σ' H' [some (.r a), some (.d (hD n ts)), some (.d (tD g)), some (.r p), some (.d (tD t)), some (.r q), none])
      (fun H5 e5 E5 => ⟨(e2.trans e4).trans e5, e4.tk.trans e5.tk, (L2.mono (row_tD _) e4).mono (row_tD _) e5, L4.mono (row_nD _) e5, E5⟩) ?_ ?_
    · rintro kx σ5 H5 hk ⟨e5, tk5, L5, Lq5, E5⟩
      have E6 := E5.set (i := 6) (s := .d (nD kx)) (.int _)
      have gk := hg.at hk
      have tk' := ht.at hk
      refine s_set (K := K) E6 (i := 5) (d := nD (g.getD (t.getD kx 0) 0)) (j := g.getD kx 0) rfl Lq5 (row_nD _) (lf_nats _) (ev_op (ev_var (i := 2) (s := .d (tD g)) rfl) (ev_op (ev_var (i := 4) (s := .d (tD t)) rfl) (ev_var (i := 6) (s := .d (nD kx)) rfl) (o_ixT (at_nD (by rw [ht.len]; exact hk)))) (o_ixT (at_nD (by rw [gl]; exact tk')))) rfl
        (fun H6 e6 => ev_op (ev_var (i := 2) (s := .d (tD g)) rfl) (ev_var (i := 6) (s := .d (nD kx)) rfl) (o_ixT (at_nD (by rw [gl]; exact hk)))) (by unfold filN; simp [gl]; exact gk) fun H7 m7 L7 => ?_
      rw [map_set, filN_step (val := fun h => g.getD (t.getD h 0) 0) hg (by omega)] at L7
      refine ⟨m7.ex e5 (e2.sm _ hq), tk5.trans m7.tk, m7.lo L5 (row_tD _) (lf_tDs _) pq, L7, (m7.env E6 (by simp [lfO, lfS, lf, lf_tD, lf_hD])).drop 6⟩
    · rintro σ5 H5 ⟨e5, tk5, L5, Lq5, E5⟩
      rw [filN_full hg ht] at Lq5
      refine s_append (K := K) E5 (i := 3) (d := tD (cnj g t)) rfl L5 (row_tD _) (lf_tDs _) (by simp; omega) (ev_tupL (ds := (cnj g t).map nD) (ev_varL (i := 5) rfl Lq5 (row_nD _))) (lf_tD _) fun H6 m6 L6 => ?_
      have tk' : ((ts.take (i + 1)).map (cnj g)).map tD = ((ts.take i).map (cnj g)).map tD ++ [tD (cnj g t)] := by rw [List.take_add_one, ht', List.map_append, List.map_append]; rfl
      refine ⟨⟨m6.ex e5 hp, by rw [tk']; exact L6, ((m6.env E5 (by simp [lfO, lfS, lf, lf_tD, lf_hD])).drop 4).drop 5⟩, tk5.trans m6.tk⟩
  · rintro σ2 H2 ⟨e2, L2, E2⟩
    rw [List.length_map, List.take_length] at L2
    refine s_ret (K := K) E2 (ev_tup (ds := [nD n, .tuple ((ts.map (cnj g)).map tD)]) (ea2 (hn H2) (ev_tupL (ev_varL (i := 3) rfl L2 (row_tD _)))) (Nat.le_of_ble_eq_true rfl)) fun v H3 e3 v3 => k g v H3 hg (e2.trans e3) v3
end
end NB
set_option maxHeartbeats 2000000
/-! the drawn house -/
namespace NB
open PySem PySem.Spec PyProof.Rows L2
def kgB (p : Nat × List Tn) : Bool := decide (1 ≤ p.1) && decide (p.1 ≤ 8) && decide (1 ≤ p.2.length) && decide (p.2.length ≤ 6) && p.2.all fun t => decide (t.Perm (List.range p.1))
theorem kg_all : KG.all kgB = true := by decide +kernel
theorem kg_ok {p : Nat × List Tn} (h : p ∈ KG) : HOkN p.1 p.2 := by
  have q := List.all_eq_true.mp kg_all p h
  unfold kgB at q
  simp only [Bool.and_eq_true, decide_eq_true_eq, List.all_eq_true] at q
  obtain ⟨⟨⟨⟨h1, h2⟩, h3⟩, h4⟩, h5⟩ := q
  exact ⟨h1, h2, h3, h4, h5⟩
def DrawnH (n : Nat) (ts : List Tn) : Prop := (∃ p ∈ KG, ∃ g, IsTn p.1 g ∧ n = p.1 ∧ ts = p.2.map (cnj g)) ∨ (1 ≤ n ∧ n ≤ 5 ∧ 1 ≤ ts.length ∧ ts.length ≤ 2 ∧ ∀ t ∈ ts, IsTn n t)
theorem DrawnH.ok {n : Nat} {ts : List Tn} (h : DrawnH n ts) : HOkN n ts := by
  rcases h with ⟨p, hp, g, hg, rfl, rfl⟩ | ⟨h1, h2, h3, h4, h5⟩
  · have o := kg_ok hp
    refine ⟨o.n1, o.n8, by simpa using o.t1, by simpa using o.t6, fun t ht => ?_⟩
    obtain ⟨u, hu, rfl⟩ := List.mem_map.mp ht
    exact cnj_isTn hg (o.ok u hu)
  · exact ⟨h1, by omega, h3, by omega, h5⟩
section
variable {P : Program} {w : World} {K : PySem.W.Frag} {mg : Str → Option Value} {base : Heap} {B : Tbs} {Γ : Ga} {σ : St} {H H' : Hp} {te ta tb tn : TE} {D : Ends} {tz tu tw : TS} {x y v : V} {r : R2} {R R' : PyData → Prop} {d : PyData} {ds es : List PyData}
theorem EvP.imp (h : EvP K B te Γ H R) (i : ∀ d, R d → R' d) : EvP K B te Γ H R' := fun σ H1 E e Q q => h σ H1 E e Q fun d v H2 rd => q d v H2 (i d rd)
theorem ep_pick {i : Nat} (hi : ROk K Γ i H) (h : Ev K B te Γ H (.d (.list ds))) (hne : ds ≠ []) (hz : ds.length < 1000000) : EvP K B (tCall (spPick K B) [] E0 (tCons (tVar i) (tCons te tNil))) Γ H fun d => d ∈ ds := fun σ H1 E e Q q => by
  obtain ⟨a, s, ns, h2, h3⟩ := hi
  refine ⟨_, E.slot h2, h σ H1 E e _ fun v H2 e2 v2 => ?_⟩
  exact ⟨e2.tb E.tb, a, s, ns, v, ds, rfl, (e.trans e2).rw _ _ _ h3, v2, hne, hz, fun d v' H3 hd e3 i3 => q d v' H3 hd (e2.trans e3) i3⟩
theorem ep_mix {i : Nat} (hi : ROk K Γ i H) (h : EvP K B te Γ H fun d => ∃ p ∈ KG, d = hP p) : EvP K B (tCall (spMix K B) [] E0 (tCons (tVar i) (tCons te tNil))) Γ H fun d => ∃ p ∈ KG, ∃ g, IsTn p.1 g ∧ d = hD p.1 (p.2.map (cnj g)) := fun σ H1 E e Q q => by
  obtain ⟨a, s, ns, h2, h3⟩ := hi
  refine ⟨_, E.slot h2, h σ H1 E e _ fun d v H2 ⟨p, hp, ed⟩ e2 v2 => ?_⟩
  subst ed
  exact ⟨e2.tb E.tb, a, s, ns, v, p.1, p.2, rfl, (e.trans e2).rw _ _ _ h3, v2, kg_ok hp, fun g v' H3 hg e3 i3 => q _ v' H3 ⟨p, hp, g, hg, rfl⟩ (e2.trans e3) i3⟩
def spWhole (K : PySem.W.Frag) (B : Tbs) : Sp := fun vs H Q _ => TbOk B H ∧ ∃ a s ns, vs = [.ref a] ∧ RowAt K H a s ns ∧ ∀ d v' H', (∃ p ∈ KG, ∃ g, IsTn p.1 g ∧ d = hD p.1 (p.2.map (cnj g))) → Ex K B H H' → Is H' v' d → Q v' H'
abbrev PWhole (P : Program) (w : World) (K : PySem.W.Frag) (mg : Str → Option Value) (base : Heap) (B : Tbs) : Prop := Pr P w K mg base 4 "_law_whole" ["_law_row"] (spWhole K B)
theorem pr_law_whole (D : Dd K mg "_law_whole" s_law_whole) (G : Bl mg) (Dm : PMix P w K mg base B) (Dp : PPick P w K mg base B) (Dk : PKnown P w K mg base B) : PWhole P w K mg base B := by
  refine pr_of D sc_law_whole (b1 fun _ _ _ _ _ _ _ => rfl) (fun vs H Q E ⟨_, a, s, ns, h, _⟩ => by rw [h]; rfl) fun f cdv A outer s0 H vs Q E hr h => ⟨_, (wt_law_whole G Dm Dp Dk hr).2, ?_⟩
  obtain ⟨tb, a, s, ns, rfl, hR, k⟩ := h
  have E0 := env_start2 (N := N_law_whole) [.r a] tb (.cons rfl .nil) (Nat.le_of_ble_eq_true rfl)
  have hro : ∀ H1, Ex K B H H1 → ROk K [some (.r a)] 0 H1 := fun H1 e => ⟨a, s, ns, rfl, e.rw _ _ _ hR⟩
  exact s_retP (K := K) E0 (ep_mix (hro H (Ex.refl K H)) ((ep_pick (ds := KG.map hP) (hro H (Ex.refl K H)) (EvN.ev (en_call (ds := []) ea_nil ⟨rfl, rfl⟩) (row_hP _)) (by decide) (by decide)).imp fun d hd => by
    obtain ⟨p, hp, e⟩ := List.mem_map.mp hd
    exact ⟨p, hp, e.symm⟩)) k
/-- [e for _ in range(n)], drawn -/
theorem en_lcP {j : Nat} {Rm : Nat → Prop} {G' : Nat → Ga} (hn : EvP K B tn Γ H fun d => ∃ m : Nat, d = nD m ∧ Rm m) (hm : ∀ m, Rm m → m ≤ 900) (hg : ∀ i, Tgt K B (gName j) [j] (nD i) (wipeG Γ [j]) (G' i)) (he : ∀ i, EvP K B te (G' i) H R) (hl : ∀ d, R d → lf d = true) (hom : Hom R) :
    EvNP K B (tLc (iRng1 (tCons tn tNil)) (gName j) tYes te [j]) Γ H fun ds => Rm ds.length ∧ ∀ d ∈ ds, R d := fun σ H1 E e Q q =>
  hn σ H1 E e _ fun d v H2 ⟨m, ed, rm⟩ e2 v2 => by
    subst ed
    cases (show Is H2 v (.int (m : Int)) from v2)
    have m9 := hm m rm
    refine ⟨(m : Int), rfl, by omega, by omega, fun Dd hD => ?_⟩
    have W : Walk (Itr 0 (m : Int).toNat) m (fun _ => True) (YFn fun i => .int (0 + (i : Int))) := by rw [Int.toNat_natCast]; exact walk_range
    refine lc_it W (fun i H' => ∃ ds : List PyData, ds.length = i ∧ (∀ d ∈ ds, R d) ∧ Cw K B H2 Dd ds H') ⟨[], rfl, fun d hd => (by cases hd), hD, Ex.new (K := K) (B := B) (o := .lst []) hD, [], upd_same, .nil⟩ (fun _ _ _ _ => trivial) (fun i x H' H'' hi ⟨ds, hl1, hR, c⟩ y => ?_) fun H' ⟨ds, hl1, hR, c⟩ => ?_
    · obtain ⟨rfl, rfl⟩ := y
      have iv2 : Is H'' (.int (0 + (i : Int))) (nD i) := by rw [Int.zero_add]; exact .int _
      have les : lfAll ds = true := lfAll_of fun d hd => hl d (hR d hd)
      have nr0 : rowD ds = false := hom_row hom hR
      refine hg i σ _ H'' _ (((E.mono e2).mono c.ex).wipe _) iv2 fun σ2 w2 E2 => ⟨w2, ?_⟩
      simp only [tYes, ↓reduceIte]
      refine he i σ2 H'' E2 ((e.trans e2).trans c.ex) _ fun d y7 H7 rd e7 v7 => ?_
      obtain ⟨us, h1, h2⟩ := c.at_
      have h17 := e7.lst h1 (norow_of h2 nr0)
      have np : ∀ xs, ¬ Rd H7 Dd (.tup xs) := plain_nt (by rw [h17]; trivial)
      refine ⟨us, h17, ltline (by rw [h2.len]; omega), ds ++ [d], by simp [hl1], fun z hz => ?_, c.nw, (c.ex.trans e7).mut c.nw (by rw [h17]; trivial), us ++ [y7], upd_same, ?_⟩
      · rcases List.mem_append.mp hz with q | q
        · exact hR z q
        · rw [List.mem_singleton.mp q]; exact rd
      · exact ((h2.mono e7).upd les np).app (.one (Is.upd v7 (hl d rd) np))
    · obtain ⟨us, h1, h2⟩ := c.at_
      exact q ds Dd us H' ⟨by rw [hl1]; exact rm, hR⟩ (e2.sm _ hD) (e2.trans c.ex) h1 h2
theorem ep_tupN {RL : List PyData → Prop} (h : EvNP K B te Γ H RL) (hr : ∀ ds, RL ds → rowD ds = false) : EvP K B (tCB (rTupOf K) (tCons te tNil)) Γ H fun d => ∃ ds, RL ds ∧ d = .tuple ds := fun σ H1 E e Q q =>
  h σ H1 E e _ fun ds p vs H2 rl hp e2 h2 i2 => ⟨p, vs, rfl, .inl ⟨.inl (.inl h2), fun l hl => q _ _ _ ⟨ds, rl, rfl⟩ (e2.trans (Ex.new hl)) (.tup (.inl upd_same) (i2.mono (Ex.new (K := K) (B := B) hl)))⟩⟩
theorem ep_tup2 (ha : Ev K B ta Γ H (.d d)) (hb : EvP K B tb Γ H R) : EvP K B (tTup (tCons ta (tCons tb tNil))) Γ H fun z => ∃ e, R e ∧ z = .tuple [d, e] := fun σ H1 E e Q q =>
  ha σ H1 E e _ fun x H2 e2 x2 => hb σ H2 (E.mono e2) (e.trans e2) _ fun f y H3 rf e3 y3 => by
    refine ⟨lenline (by simp), fun p hp => q _ _ _ ⟨f, rf, rfl⟩ ((e2.trans e3).trans (Ex.new hp)) (.tup (.inl upd_same) ?_)⟩
    exact .cons (Is.mono (Ex.new (K := K) (B := B) hp) (Is.mono e3 x2)) (.cons (Is.mono (Ex.new (K := K) (B := B) hp) y3) .nil)
theorem q_ifP {te : TE} (E : Env B σ H Γ) (h : EvP K B te Γ H fun d => ∃ b, d = .bool b) (h1 : ∀ H1, Ex K B H H1 → Env B σ H1 Γ → tu { D with nx := tz D } σ H1) (h2 : ∀ H1, Ex K B H H1 → Env B σ H1 Γ → tw { D with nx := tz D } σ H1) : tSeq (tIfS (tTest te) tu tw) tz D σ H :=
  h σ H E (Ex.refl K H) _ fun d v H1 ⟨b, ed⟩ e1 v1 => by
    subst ed
    cases (show Is H1 v (.bool b) from v1)
    refine ⟨b, rfl, ?_⟩
    cases b with
    | true => exact h1 H1 e1 (E.mono e1)
    | false => exact h2 H1 e1 (E.mono e1)
def spHouse (K : PySem.W.Frag) (B : Tbs) : Sp := fun vs H Q _ => TbOk B H ∧ ∃ a s ns, vs = [.ref a] ∧ RowAt K H a s ns ∧ ∀ n ts v' H', DrawnH n ts → Ex K B H H' → Is H' v' (hD n ts) → Q v' H'
abbrev PLHouse (P : Program) (w : World) (K : PySem.W.Frag) (mg : Str → Option Value) (base : Heap) (B : Tbs) : Prop := Pr P w K mg base 5 "_law_house" ["_law_row"] (spHouse K B)
theorem pr_law_house (D : Dd K mg "_law_house" s_law_house) (G : Bl mg) (Dt : PTak P w K mg base B) (Dw : PWhole P w K mg base B) (Du : PLTurn P w K mg base B) : PLHouse P w K mg base B := by
  refine pr_of D sc_law_house (b1 fun _ _ _ _ _ _ _ => rfl) (fun vs H Q E ⟨_, a, s, ns, h, _⟩ => by rw [h]; rfl) fun f cdv A outer s0 H vs Q E hr h => ⟨_, (wt_law_house G Dt Dw Du hr).2, ?_⟩
  obtain ⟨tb, a, s, ns, rfl, hR, k⟩ := h
  have E0 := env_start2 (N := N_law_house) [.r a] tb (.cons rfl .nil) (Nat.le_of_ble_eq_true rfl)
  unfold wt_law_house
  dsimp only [List.map]
  have hro : ∀ {b c : Option Sl} H1, Ex K B H H1 → ROk K [some (.r a), b, c] 0 H1 := fun H1 e => ⟨a, s, ns, rfl, e.rw _ _ _ hR⟩
  refine q_ifP (K := K) E0 (ep_opL (s1 := .d (.int 0)) (ep_taken (m := 2) (hro H (Ex.refl K H)) (ev_int (i := 2)) (by decide) (by decide)) ev_int fun d ⟨j, hj, e⟩ => ⟨.bool (decide (j = 0)), ⟨_, rfl⟩, fun H1 => by rw [e]; exact o_eqN (j := 0)⟩) (fun H1 e1 E1 => ?_) fun H1 e1 E1 => ?_
  · refine ⟨_, E1.slot (i := 0) rfl, E1.tb, a, s, ns, rfl, e1.rw _ _ _ hR, fun d v' H2 hd e2 i2 => ?_⟩
    obtain ⟨p, hp, g, hg, rfl⟩ := hd
    exact k _ _ v' H2 (.inl ⟨p, hp, g, hg, rfl, rfl⟩) (e1.trans e2) i2
  · refine q_asgP (K := K) (i := 1) (R := fun d => ∃ n, 1 ≤ n ∧ n ≤ 5 ∧ d = nD n) E1 (ep_op (s1 := .d (.int 1)) ev_int (ep_taken (m := 5) (hro H1 e1) (ev_int (i := 5)) (by decide) (by decide)) fun d ⟨j, hj, e⟩ => ⟨nD (1 + j), ⟨1 + j, by omega, by omega, rfl⟩, fun H1 => by
      rw [e]
      have q : Op2 K B (rI0 fun i j => .int (i + j)) (.d (.int 1)) (.d (nD j)) H1 (.d (.int (1 + (j : Int)))) := o_I0
      rw [show (1 : Int) + (j : Int) = ((1 + j : Nat) : Int) by omega] at q
      exact q⟩) fun d v1 H2 ⟨n, n1, n5, ed⟩ e2 i2 E2 => ?_
    subst ed
    refine s_retP (K := K) E2 (ep_tup2 (ev_var (i := 1) rfl) (ep_tupN (en_lcP (j := 2) (Rm := fun m => 1 ≤ m ∧ m ≤ 2) (R := fun d => ∃ t, IsTn n t ∧ d = tD t) (G' := fun i => [some (.r a), some (.d (nD n)), some (.d (nD i))]) ?_ (fun m h => by omega) (fun i => tgt_name (j := 2) (wipe1 2)) (fun i => ep_turn (hro H2 (e1.trans e2)) (ev_var (i := 1) rfl) (by omega)) (fun d ⟨t, _, e⟩ => by rw [e]; exact lf_tD t) (.inr fun d ⟨t, _, e⟩ => by rw [e]; rfl)) fun ds ⟨_, h⟩ => hom_row (P := fun d => ∃ t, IsTn n t ∧ d = tD t) (.inr fun d ⟨t, _, e⟩ => by rw [e]; rfl) h)) fun d v3 H3 ⟨e, ⟨ds, ⟨hlen, hds⟩, ee⟩, ed⟩ e3 i3 => ?_
    · refine ep_op (s1 := .d (.int 1)) ev_int (ep_taken (m := 2) (hro H2 (e1.trans e2)) (ev_int (i := 2)) (by decide) (by decide)) fun d ⟨j, hj, e⟩ => ⟨nD (1 + j), ⟨1 + j, rfl, by omega, by omega⟩, fun H1 => ?_⟩
      rw [e]
      have q : Op2 K B (rI0 fun i j => .int (i + j)) (.d (.int 1)) (.d (nD j)) H1 (.d (.int (1 + (j : Int)))) := o_I0
      rw [show (1 : Int) + (j : Int) = ((1 + j : Nat) : Int) by omega] at q
      exact q
    · have tsx : ∃ ts : List Tn, ds = ts.map tD ∧ ∀ t ∈ ts, IsTn n t := by
        clear hlen ee
        induction ds with
        | nil => exact ⟨[], rfl, fun t ht => by cases ht⟩
        | cons x l ih =>
          obtain ⟨t, ht, rfl⟩ := hds x List.mem_cons_self
          obtain ⟨ts, h1, h2⟩ := ih fun z hz => hds z (List.mem_cons_of_mem _ hz)
          refine ⟨t :: ts, by rw [h1]; rfl, fun u hu => ?_⟩
          rcases List.mem_cons.mp hu with q | q
          · rw [q]; exact ht
          · exact h2 u q
      obtain ⟨ts, rfl, hts⟩ := tsx
      subst ee
      subst ed
      rw [List.length_map] at hlen
      exact k n ts v3 H3 (.inr ⟨n1, n5, hlen.1, hlen.2, hts⟩) ((e1.trans e2).trans e3) i3
end
end NB
set_option maxHeartbeats 2000000
/-! the law's own functions -/
namespace NB
open PySem PySem.Spec PyProof.Rows L2
section
variable {P : Program} {w : World} {K : PySem.W.Frag} {mg : Str → Option Value} {base : Heap} {B : Tbs} {Γ : Ga} {σ : St} {H H' : Hp} {te ta tb tn : TE} {D : Ends} {tz tu tw : TS} {x y v : V} {r : R2} {R R' : PyData → Prop} {d : PyData} {ds es : List PyData} {s1 s2 : Sl}
abbrev PLStay (P : Program) (w : World) (K : PySem.W.Frag) (mg : Str → Option Value) (base : Heap) (B : Tbs) : Prop := Pr P w K mg base 1 "_law_stayers" ["_law_turn_here"] (spD K B CFix)
theorem pr_law_stayers (D : Dd K mg "_law_stayers" s_law_stayers) (G : Bl mg) : PLStay P w K mg base B := by
  refine pr_of D sc_law_stayers (b1 fun _ _ _ _ _ _ _ => rfl) (spD_len (n := 1) fun ds d ⟨_, _, h, _⟩ => by rw [h]; rfl) fun f cdv A outer s H vs Q E hr h => ⟨_, (wt_law_stayers G hr).2, ?_⟩
  obtain ⟨tb, ds, d, hI, ⟨n, t, rfl, rfl, ht, n8⟩, k⟩ := h
  have E0 := env_start (N := N_law_stayers) tb (slsOk_data hI) (by rw [hI.len]; exact Nat.le_of_ble_eq_true rfl)
  have hz := ht.len
  unfold wt_law_stayers
  dsimp only [List.map]
  refine s_ret (K := K) E0 ((ev_tupN (ds := (fixT t).map nD) (en_lc (enc := nD) (xs := List.range t.length) (keep := fun x => decide (t.getD x 0 = x)) (val := nD) (G' := fun x => [some (.d (tD t)), some (.d (nD x))])
    (src_R (n := t.length) ((ev_lenT (ds := t.map nD) (ev_var (i := 0) rfl)).to (by rw [List.length_map])) (by omega)) (by rw [List.length_range]; omega) (fun x hx => tgt_name (j := 1) (wipe1 1)) (fun x hx => et_test (ev_op (ev_op (ev_var (i := 0) (s := .d (tD t)) rfl) (ev_var (i := 1) (s := .d (nD x)) rfl) (o_ixT (at_nD (List.mem_range.mp hx)))) (ev_var (i := 1) (s := .d (nD x)) rfl) o_eqN)) (fun x hx _ => ⟨ev_var (i := 1) rfl, rfl⟩) (hom_int fun d ⟨x, _, _, e⟩ => ⟨_, e⟩)) (row_nD _)).to (e := tD (fixT t)) rfl) fun v H1 e1 v1 => k v H1 e1 v1
abbrev PLThen (P : Program) (w : World) (K : PySem.W.Frag) (mg : Str → Option Value) (base : Heap) (B : Tbs) : Prop := Pr P w K mg base 1 "_law_then" ["_law_one", "_law_other"] (spD K B CThen)
theorem pr_law_then (D : Dd K mg "_law_then" s_law_then) (G : Bl mg) : PLThen P w K mg base B := by
  refine pr_of D sc_law_then (b2 fun _ _ _ _ _ _ _ _ => rfl) (spD_len (n := 2) fun ds d ⟨_, _, _, h, _⟩ => by rw [h]; rfl) fun f cdv A outer s H vs Q E hr h => ⟨_, (wt_law_then G hr).2, ?_⟩
  obtain ⟨tb, ds, d, hI, ⟨n, a, b, rfl, rfl, ha, hb, n8⟩, k⟩ := h
  have E0 := env_start (N := N_law_then) tb (slsOk_data hI) (by rw [hI.len]; exact Nat.le_of_ble_eq_true rfl)
  unfold wt_law_then
  dsimp only [List.map]
  refine s_ret (K := K) E0 ((ev_tupN (ds := (thn a b).map nD) ((en_lcY (enc := nD) (val := fun x => nD (b.getD x 0)) (G' := fun x => [some (.d (tD a)), some (.d (tD b)), some (.d (nD x))]) (src_T (ds := a.map nD) (ev_var (i := 0) rfl)) (by rw [ha.len]; omega) (fun x hx => tgt_name (j := 2) (wipe1 2)) (fun x hx => ⟨ev_op (ev_var (i := 1) (s := .d (tD b)) rfl) (ev_var (i := 2) (s := .d (nD x)) rfl) (o_ixT (at_nD (by rw [hb.len]; exact ha.mem.mp hx))), rfl⟩) (hom_int fun d ⟨x, _, e⟩ => ⟨_, e⟩)).to ?_) (row_nD _)).to (e := tD (thn a b)) rfl) fun v H1 e1 v1 => k v H1 e1 v1
  unfold thn
  rw [List.map_map]
  rfl
/-! ### rings -/
theorem s_parDD {i j : Nat} (E : Env B σ H Γ) (ha : Ev K B ta Γ H s1) (hb : Ev K B tb Γ H s2)
    (k : ∀ v u H', Ex K B H H' → Env B ((σ.set i (some v)).set j (some u)) H' ((Γ.set i (some s1)).set j (some s2)) → D.nx ((σ.set i (some v)).set j (some u)) H') : tPar i j (tCons ta (tCons tb tNil)) D σ H :=
  ha σ H E (Ex.refl K H) _ fun v H1 e1 h1 => hb σ H1 (E.mono e1) e1 _ fun u H2 e2 h2 => ⟨_, _, rfl, k v u H2 (e1.trans e2) ((((E.mono e1).mono e2).set (s := s1) (h1.mono e2)).set (s := s2) h2)⟩
abbrev PLRings (P : Program) (w : World) (K : PySem.W.Frag) (mg : Str → Option Value) (base : Heap) (B : Tbs) : Prop := Pr P w K mg base 1 "_law_rings" ["_law_turn_here"] (spN K B CRin)
theorem pr_law_rings (D : Dd K mg "_law_rings" s_law_rings) (G : Bl mg) : PLRings P w K mg base B := by
  refine pr_of D sc_law_rings (b1 fun _ _ _ _ _ _ _ => rfl) (spN_len (n := 1) fun ds d ⟨_, _, h, _⟩ => by rw [h]; rfl) fun f cdv A outer s H vs Q E hr h => ⟨_, (wt_law_rings G hr).2, ?_⟩
  obtain ⟨tb, ds, es, hI, ⟨n, t, rfl, rfl, ht, n8⟩, k⟩ := h
  have E0 := env_start (N := N_law_rings) tb (slsOk_data hI) (by rw [hI.len]; exact Nat.le_of_ble_eq_true rfl)
  have hz := ht.len
  unfold wt_law_rings
  dsimp only [List.map]
  refine q_parNN (K := K) (ds := []) (es := []) E0 (en_lst ea_nil (Nat.le_of_ble_eq_true rfl)) rfl (fun H1 _ => en_lst ea_nil (Nat.le_of_ble_eq_true rfl)) fun pf ps H1 hpf hps pfs e1 Lf Ls E1 => ?_
  refine q_forR (K := K) (B := B) (n := t.length) E1 ((ev_lenT (ds := t.map nD) (ev_var (i := 0) rfl)).to (by rw [List.length_map])) (by omega) (fun i σ' H' => ∃ (seen : List Nat) (pf : Addr), pf ≠ ps ∧ Ex K B H H' ∧ Lo H' pf ((((List.range i).foldl (repF (rCy t)) []).map (ordf t)).map nD) ∧ Lo H' ps (seen.map nD) ∧ Env B σ' H' [some (.d (tD t)), some (.r pf), some (.r ps), none, none] ∧ seen.Nodup ∧ (∀ y ∈ seen, y < n) ∧ (∀ y, y ∈ seen ↔ ∃ z ∈ (List.range i).foldl (repF (rCy t)) [], y ∈ cyc t z) ∧ (∀ z ∈ (List.range i).foldl (repF (rCy t)) [], z < n) ∧ ((List.range i).foldl (repF (rCy t)) []).length ≤ i)
    (fun H2 e2 E2 => ⟨[], pf, pfs, e1.trans e2, Lf.mono rfl e2, Ls.mono rfl e2, E2, List.nodup_nil, fun y hy => (by cases hy), fun y => by simp, fun z hz => (by cases hz), Nat.le_refl _⟩) ?_ ?_
  · rintro x σ2 H2 hx ⟨seen, pf, pfs, e2, Lf, Ls, E2, sN, slt, smem, dlt, dlen⟩
    have hxn : x < n := by omega
    have E3 := E2.set (i := 3) (s := .d (nD x)) (.int _)
    refine q_asg (K := K) (i := 4) (s := .d (nD 0)) E3 ev_int fun v4 H4 e4 i4 E4 => ?_
    have hfold : (List.range (x + 1)).foldl (repF (rCy t)) [] = repF (rCy t) ((List.range x).foldl (repF (rCy t)) []) x := by rw [List.range_succ, List.foldl_append]; rfl
    generalize hdn : (List.range x).foldl (repF (rCy t)) [] = dn at Lf smem dlt dlen hfold
    have anyS : dn.any (fun y => rCy t y x) = true ↔ x ∈ seen := by
      rw [smem, List.any_eq_true]
      exact ⟨fun ⟨z, h1, h2⟩ => ⟨z, h1, of_decide_eq_true h2⟩, fun ⟨z, h1, h2⟩ => ⟨z, h1, decide_eq_true h2⟩⟩
    have notIn : ∀ k, x ∉ seen → itr t k x ∉ seen := fun k hn hk => by
      obtain ⟨z, h1, h2⟩ := (smem _).mp hk
      exact hn ((smem x).mpr ⟨z, h1, cyc_back ht hxn (dlt z h1) h2⟩)
    refine q_while (K := K) (B := B) (fun m σ' H' => ∃ kk, (x ∈ seen → kk = 0) ∧ NoH t x kk ∧ Ex K B H H' ∧ Lo H' pf ((dn.map (ordf t)).map nD) ∧ Lo H' ps ((seen ++ (List.range kk).map fun i => itr t i x).map nD) ∧ Env B σ' H' [some (.d (tD t)), some (.r pf), some (.r ps), some (.d (nD (itr t kk x))), some (.d (nD kk))] ∧ m = n + 1 - kk) _
      ⟨0, fun _ => rfl, fun j h0 h1 => by omega, e2.trans e4, Lf.mono (row_nD _) e4, by simpa using Ls.mono (row_nD _) e4, E4, rfl⟩ ?_
    rintro m σ5 H5 ⟨kk, kz, hno, e5, Lf5, Ls5, E5, rfl⟩
    have kn := noH_le ht hxn hno
    have slen : seen.length ≤ n := by
      have := nd_len seen (List.range n) sN fun y hy => List.mem_range.mpr (slt y hy)
      simpa using this
    refine ⟨_, _, E5, (et_test (ev_op (ev_var (i := 3) (s := .d (nD (itr t kk x))) rfl) (ev_varL (i := 2) rfl Ls5 (row_nD _)) (o_notInD ((shp_nD _).ok (by decide)) ((shp_lN _).ok (by decide))))).to (c := !decide (itr t kk x ∈ seen ++ (List.range kk).map fun i => itr t i x)) (by rw [any_nD]), fun hb H6 e6 E6 => ?_, fun hb H6 e6 E6 => ?_⟩
    · have hnot : itr t kk x ∉ seen ++ (List.range kk).map fun i => itr t i x := by simpa using hb
      rw [List.mem_append, not_or] at hnot
      obtain ⟨hn1, hn2⟩ := hnot
      have hxs : x ∉ seen := fun z => by
        have := kz z
        subst this
        exact hn1 z
      have hno2 : NoH t x (kk + 1) := fun j h0 h1 => by
        by_cases q : j = kk
        · subst q
          exact fun z => hn2 (List.mem_map.mpr ⟨0, List.mem_range.mpr h0, z.symm⟩)
        · exact hno j h0 (by omega)
      have kn2 := noH_le ht hxn hno2
      have Ls6 := Ls5.mono (row_nD _) e6
      refine q_append (K := K) E6 (i := 2) rfl Ls6 (row_nD _) (lf_nats _) (by simp; omega) (ev_var (i := 3) (s := .d (nD (itr t kk x))) rfl) rfl fun H7 m7 L7 => ?_
      have E7 := m7.env E6 (by simp [lfO, lfS, lf_tD, lf])
      have hix := itr_lt ht hxn kk
      refine s_parDD (K := K) E7 (s1 := .d (nD (itr t (kk + 1) x))) (s2 := .d (nD (kk + 1))) (ev_op (ev_var (i := 0) (s := .d (tD t)) rfl) (ev_var (i := 3) (s := .d (nD (itr t kk x))) rfl) (o_ixT (at_nD (by omega)))) (ev_op (ev_var (i := 4) (s := .d (nD kk)) rfl) ev_int o_I0) fun v8 u8 H8 e8 E8 => ?_
      refine ⟨_, ?_, kk + 1, fun z => absurd z hxs, hno2, (m7.ex (e5.trans e6) hps).trans e8, (m7.lo (Lf5.mono (row_nD _) e6) (row_nD _) (lf_nats _) pfs).mono (row_nD _) e8, ?_, E8, rfl⟩
      · omega
      · have e9 : (seen ++ (List.range (kk + 1)).map fun i => itr t i x).map nD = (seen ++ (List.range kk).map fun i => itr t i x).map nD ++ [nD (itr t kk x)] := by
          rw [List.range_succ, List.map_append, List.map_append, List.map_append, List.map_append, List.append_assoc]
          rfl
        rw [← e9] at L7
        exact L7.mono (row_nD _) e8
    · have hin : itr t kk x ∈ seen ++ (List.range kk).map fun i => itr t i x := by
        rw [Bool.not_eq_false'] at hb
        exact of_decide_eq_true hb
      have key : (x ∈ seen ∧ kk = 0) ∨ (x ∉ seen ∧ IsOrd t x kk) := by
        by_cases hxs : x ∈ seen
        · exact .inl ⟨hxs, kz hxs⟩
        · refine .inr ⟨hxs, ?_⟩
          rcases List.mem_append.mp hin with q | q
          · exact absurd q (notIn kk hxs)
          · obtain ⟨j, hj, ej⟩ := List.mem_map.mp q
            have hj := List.mem_range.mp hj
            have hom : itr t (kk - j) x = x := by
              have e3 : itr t j (itr t (kk - j) x) = itr t j x := by rw [← itr_add, show j + (kk - j) = kk by omega]; exact ej.symm
              exact itr_inj ht (itr_lt ht hxn _) hxn j e3
            by_cases j0 : j = 0
            · subst j0
              exact ⟨by omega, hom, hno⟩
            · exact absurd hom (hno (kk - j) (by omega) (by omega))
      have Lf6 := Lf5.mono (row_nD _) e6
      have Ls6 := Ls5.mono (row_nD _) e6
      refine s_asgN (K := K) (i := 1) (ds := (((List.range (x + 1)).foldl (repF (rCy t)) []).map (ordf t)).map nD) E6 ((en_cat (ev_varL (i := 1) rfl Lf6 (row_nD _)) (fun H' _ => en_if (b := decide ((0 : Int) < (kk : Int))) (ds := if 0 < kk then [nD kk] else []) (et_test (ev_op (ev_var (i := 4) (s := .d (nD kk)) rfl) (ev_int (i := 0)) o_B0)) (fun hk => ?_) fun hk => ?_) (by simp; split <;> simp <;> omega)).to ?_) fun p7 us7 H7 hp7 e7 h7 i7 E7 => ?_
      · have h0 : 0 < kk := by have := of_decide_eq_true hk; omega
        rw [if_pos h0]
        exact en_lst (ds := [nD kk]) (ea1 (ev_var (i := 4) rfl)) (Nat.le_of_ble_eq_true rfl)
      · have h0 : ¬ 0 < kk := by have := of_decide_eq_false hk; omega
        rw [if_neg h0]
        exact en_lst ea_nil (Nat.le_of_ble_eq_true rfl)
      · rw [hfold]
        unfold repF
        rcases key with ⟨k1, k2⟩ | ⟨k1, k2⟩
        · rw [if_pos (anyS.mpr k1), k2]
          simp
        · rw [if_neg (fun z => k1 (anyS.mp z)), if_pos (show 0 < kk from k2.pos), List.map_append, List.map_append]
          simp [ordf_eq k2]
      · have pne : p7 ≠ ps := fun z => by
          obtain ⟨ws, h, _⟩ := Ls6
          rw [← z, hp7] at h
          cases h
        refine ⟨seen ++ (List.range kk).map fun i => itr t i x, p7, pne, (e5.trans e6).trans e7, ⟨us7, h7, i7⟩, Ls6.mono (row_nD _) e7, (E7.drop 3).drop 4, ?_, ?_, ?_, ?_, ?_⟩
        · rcases key with ⟨k1, k2⟩ | ⟨k1, k2⟩
          · subst k2; simpa using sN
          · refine List.nodup_append.mpr ⟨sN, noH_nd ht hxn hno, fun a ha b hb e => ?_⟩
            obtain ⟨j, _, ej⟩ := List.mem_map.mp hb
            exact notIn j k1 (by rw [ej, ← e]; exact ha)
        · intro y hy
          rcases List.mem_append.mp hy with q | q
          · exact slt y q
          · obtain ⟨j, _, ej⟩ := List.mem_map.mp q
            rw [← ej]
            exact itr_lt ht hxn j
        · intro y
          rw [hfold]
          unfold repF
          rcases key with ⟨k1, k2⟩ | ⟨k1, k2⟩
          · subst k2
            rw [if_pos (anyS.mpr k1)]
            simpa using smem y
          · rw [if_neg (fun z => k1 (anyS.mp z)), List.mem_append, smem]
            have ec : cyc t x = (List.range kk).map fun i => itr t i x := by unfold cyc; rw [ordf_eq k2]
            rw [← ec]
            constructor
            · rintro (⟨z, h1, h2⟩ | h)
              · exact ⟨z, List.mem_append_left _ h1, h2⟩
              · exact ⟨x, by simp, h⟩
            · rintro ⟨z, h1, h2⟩
              rcases List.mem_append.mp h1 with q | q
              · exact .inl ⟨z, q, h2⟩
              · rw [List.mem_singleton.mp q] at h2
                exact .inr h2
        · intro z hz
          rw [hfold] at hz
          unfold repF at hz
          split at hz
          · exact dlt z hz
          · rcases List.mem_append.mp hz with q | q
            · exact dlt z q
            · rw [List.mem_singleton.mp q]; exact hxn
        · rw [hfold]
          unfold repF
          split
          · omega
          · simp; omega
  · rintro σ2 H2 ⟨seen, pf, pfs, e2, Lf, Ls, E2, sN, slt, smem, dlt, dlen⟩
    rw [reps_fold0] at Lf dlen
    exact s_retN (K := K) E2 ((en_cb (ea1 (ev_varL (i := 1) rfl Lf (row_nD _))) (o_srtL (by simp; omega))).to (e := (ringsT t).map nD) rfl) fun p us H4 hp e4 h4 i4 => k p us H4 (e2.sm p hp) (e2.trans e4) h4 i4
end
end NB
set_option maxHeartbeats 2000000
/-! the law's pairs -/
namespace NB
open PySem PySem.Spec PyProof.Rows L2
def lD (l : List (List Nat)) : PyData := .list (l.map tD)
/-- the lots found so far, each a list object of its own -/
inductive FL (H : Hp) (pf : Addr) : List Addr → List (List (List Nat)) → Prop
  | nil : FL H pf [] []
  | cons {a : Addr} {l : List (List Nat)} {as : List Addr} {ls : List (List (List Nat))} : Lo H a (l.map tD) → a ≠ pf → FL H pf as ls → FL H pf (a :: as) (l :: ls)
/-- a lot for each that starts one -/
inductive LP (ts : List Tn) : List (List Nat) → List (List (List Nat)) → Prop
  | nil : LP ts [] []
  | cons {x : List Nat} {l : List (List Nat)} {xs : List (List Nat)} {ls : List (List (List Nat))} : l[0]? = some x → (∀ y, y ∈ l ↔ RT (fun a b => b ∈ leadP ts a) x y) → l.Nodup → LP ts xs ls → LP ts (x :: xs) (l :: ls)
theorem LP.snoc {ts : List Tn} {x : List Nat} {l : List (List Nat)} {xs : List (List Nat)} {ls : List (List (List Nat))} (h : LP ts xs ls) (h1 : l[0]? = some x) (h2 : ∀ y, y ∈ l ↔ RT (fun a b => b ∈ leadP ts a) x y) (h3 : l.Nodup) : LP ts (xs ++ [x]) (ls ++ [l]) := by
  induction h with
  | nil => exact .cons h1 h2 h3 .nil
  | cons a b c d ih => exact .cons a b c ih
theorem LP.len {ts : List Tn} {xs : List (List Nat)} {ls : List (List (List Nat))} (h : LP ts xs ls) : ls.length = xs.length := by
  induction h with
  | nil => rfl
  | cons a b c d ih => simp [ih]
section
variable {P : Program} {w : World} {K : PySem.W.Frag} {mg : Str → Option Value} {base : Heap} {B : Tbs} {Γ : Ga} {σ : St} {H H' : Hp} {te ta tb tn : TE} {D : Ends} {tz tu tw : TS} {x y v : V} {r : R2} {R R' : PyData → Prop} {d : PyData} {ds es : List PyData} {s1 s2 : Sl} {pf : Addr} {as : List Addr} {ls : List (List (List Nat))}
theorem FL.mono (h : FL H pf as ls) (e : Ex K B H H') : FL H' pf as ls := by
  induction h with
  | nil => exact .nil
  | cons a b c ih => exact .cons (a.mono (row_tD _) e) b ih
theorem FL.mt (h : FL H pf as ls) (m : Mt K B H pf H') : FL H' pf as ls := by
  induction h with
  | nil => exact .nil
  | cons a b c ih => exact .cons (m.lo a (row_tD _) (lf_tDs _) b) b ih
theorem FL.snoc {a : Addr} {l : List (List Nat)} (h : FL H pf as ls) (h1 : Lo H a (l.map tD)) (h2 : a ≠ pf) : FL H pf (as ++ [a]) (ls ++ [l]) := by
  induction h with
  | nil => exact .cons h1 h2 .nil
  | cons a b c ih => exact .cons a b ih
theorem FL.is (h : FL H pf as ls) : IsAll H (as.map V.ref) (ls.map lD) := by
  induction h with
  | nil => exact .nil
  | cons a b c ih => exact .cons (a.is (row_tD _)) ih
theorem row_lD (l : List (List (List Nat))) : rowD (l.map lD) = false := hom_row (P := fun d => ∃ t, d = PyData.list t) (.inr fun d ⟨t, e⟩ => by rw [e]; rfl) fun d hd => by
  obtain ⟨t, _, e⟩ := List.mem_map.mp hd
  exact ⟨_, e.symm⟩
theorem norow_as (as : List Addr) : ¬ isRow (.lst (as.map V.ref)) := norow_refs fun x hx => by
  obtain ⟨a, _, e⟩ := List.mem_map.mp hx
  exact ⟨a, e.symm⟩
/-- append an object to the list of objects -/
theorem q_appendR {i j : Nat} {q : Addr} (E : Env B σ H Γ) (hi : Γ[i]? = some (some (.r pf))) (hj : Γ[j]? = some (some (.r q))) (hf : H pf = some (.lst (as.map V.ref))) (hz : as.length < 999)
    (k : ∀ H', Mt K B H pf H' → H' pf = some (.lst ((as ++ [q]).map V.ref)) → tz D σ H') : tSeq (tDrop (tBM K "list" rAppend (tVar i) (tCons (tVar j) tNil))) tz D σ H := by
  refine ⟨_, E.slot hi, .inl ⟨rfl, _, .inl (.inl hf)⟩, _, E.slot hj, pf, _, _, rfl, rfl, hf, ltline (by simp; omega), ?_⟩
  refine k _ ⟨H, _, Ex.refl K H, by rw [hf]; trivial, rfl⟩ ?_
  rw [upd_same]
  simp
def spPairs (K : PySem.W.Frag) (B : Tbs) : Sp := fun vs H Q _ => TbOk B H ∧ ∃ n ts, IsAll H vs [hD n ts] ∧ HOkN n ts ∧ ∀ p us ls H', H p = none → Ex K B H H' → H' p = some (.lst us) → IsAll H' us (ls.map lD) → LP ts (reps (rRT (leadP ts)) (allP n)) ls → Q (.ref p) H'
abbrev PLPairs (P : Program) (w : World) (K : PySem.W.Frag) (mg : Str → Option Value) (base : Heap) (B : Tbs) : Prop := Pr P w K mg base 1 "_law_pairs" ["_law_house_here"] (spPairs K B)
theorem q_twoNN {i j : Nat} (E : Env B σ H Γ) (ha : EvN K B ta Γ H ds) (nr : rowD ds = false) (hb : ∀ H1, Ex K B H H1 → EvN K B tb Γ H1 es) (nr2 : rowD es = false)
    (k : ∀ p q H', H p = none → H q = none → p ≠ q → Ex K B H H' → Lo H' p ds → Lo H' q es → Env B ((σ.set i (some (.ref p))).set j (some (.ref q))) H' ((Γ.set i (some (.r p))).set j (some (.r q))) → tz D ((σ.set i (some (.ref p))).set j (some (.ref q))) H') :
    tSeq (tAsg (tTup (tCons ta (tCons tb tNil))) (gTup K 2 (gCons (gName i) (gCons (gName j) gNil)))) tz D σ H :=
  ha σ H E (Ex.refl K H) _ fun p vs H1 hp e1 h1 i1 => hb H1 e1 σ H1 (E.mono e1) (Ex.refl K H1) _ fun q us H2 hq e2 h2 i2 => by
    refine ⟨lenline (by simp), fun r hr => ?_⟩
    have e3 : Ex K B H2 (upd H2 r (.tup [.ref p, .ref q])) := Ex.new hr
    refine ⟨_, _, rfl, .inl (.inl upd_same), rfl, _, _, rfl, _, _, rfl, rfl, ?_⟩
    refine k p q _ hp (e1.sm q hq) (fun z => ?_) ((e1.trans e2).trans e3) ((Lo.mono ⟨vs, h1, i1⟩ nr e2).mono nr e3) (Lo.mono ⟨us, h2, i2⟩ nr2 e3) (((((E.mono e1).mono e2).mono e3).set (s := .r p) rfl).set (s := .r q) rfl)
    rw [z, hq] at h1
    cases h1
theorem pr_law_pairs (D : Dd K mg "_law_pairs" s_law_pairs) (G : Bl mg) : PLPairs P w K mg base B := by
  refine pr_of D sc_law_pairs (b1 fun _ _ _ _ _ _ _ => rfl) (fun vs H Q E ⟨_, n, ts, h, _⟩ => by rw [h.len]; rfl) fun f cdv A outer s0 H vs Q E hr h => ⟨_, (wt_law_pairs G hr).2, ?_⟩
  obtain ⟨tb, n, ts, hI, ho, k⟩ := h
  have E0 := env_start (N := N_law_pairs) tb (slsOk_data hI) (by rw [hI.len]; exact Nat.le_of_ble_eq_true rfl)
  have n8 := ho.n8
  have nn : n * n ≤ 8 * 8 := Nat.mul_le_mul n8 n8
  unfold wt_law_pairs
  dsimp only [List.map]
  have hn : ∀ {a b c d e f g h : Option Sl} H, Ev K B (tOp (rIxT K) (tVar 0) (tC (.int 0))) [some (.d (hD n ts)), a, b, c, d, e, f, g, h] H (.d (nD n)) := fun H => ev_op (ev_var (i := 0) (s := .d (hD n ts)) rfl) ev_int (o_ixT (j := 0) rfl)
  have allE : ∀ i, ((List.range (i + 1)).flatMap fun a => (List.range n).map fun b => [a, b]) = ((List.range i).flatMap fun a => (List.range n).map fun b => [a, b]) ++ (List.range n).map fun b => [i, b] := fun i => by
    rw [List.range_succ, List.flatMap_append]
    simp
  have allL : ∀ i, ((List.range i).flatMap fun a => (List.range n).map fun b => [a, b]).length = i * n := fun i => by
    rw [List.length_flatMap]
    simp [List.map_const']
  refine q_parNN (K := K) (ds := []) (es := []) E0 (en_lst ea_nil (Nat.le_of_ble_eq_true rfl)) rfl (fun H1 _ => en_lst ea_nil (Nat.le_of_ble_eq_true rfl)) fun pl pf H1 hpl hpf plf e1 Ll Lf E1 => ?_
  refine q_forR (K := K) (B := B) (n := n) E1 (hn H1) (by omega) (fun i σ' H' => ∃ pl : Addr, pf ≠ pl ∧ Ex K B H H' ∧ H' pf = some (.lst []) ∧ Lo H' pl (((List.range i).flatMap fun a => (List.range n).map fun b => [a, b]).map tD) ∧ Env B σ' H' [some (.d (hD n ts)), some (.r pl), some (.r pf), none, none, none, none, none, none]) (fun H2 e2 E2 => ?_) ?_ ?_
  · obtain ⟨us, h1, h2⟩ := Lf
    cases h2
    exact ⟨pl, plf.symm, e1.trans e2, e2.lst h1 (norow_len (by simp)), Ll.mono rfl e2, E2⟩
  · rintro i σ2 H2 hi ⟨pl, plf, e2, hf, Ll, E2⟩
    have E3 := E2.set (i := 3) (s := .d (nD i)) (.int _)
    have ii : i * n ≤ 8 * 8 := Nat.mul_le_mul (by omega) n8
    refine s_asgN (K := K) (i := 1) E3 ((en_cat (ev_varL (i := 1) rfl Ll (row_tD _)) (fun H' _ => en_lcY (enc := nD) (xs := List.range n) (val := fun b => tD [i, b]) (G' := fun b => [some (.d (hD n ts)), some (.r pl), some (.r pf), some (.d (nD i)), some (.d (nD b)), none, none, none, none]) (src_R (n := n) (hn H') (by omega)) (by simp; omega) (fun b _ => tgt_name (j := 4) (wipe1 4))
      (fun b _ => ⟨ev_tup (ds := [nD i, nD b]) (ea2 (ev_var (i := 3) rfl) (ev_var (i := 4) rfl)) (Nat.le_of_ble_eq_true rfl), lf_tD _⟩) (hom_tup fun d ⟨x, _, e⟩ => ⟨_, e⟩)) (by rw [List.length_map, allL, List.length_map, List.length_range]; omega)).to (e := ((List.range (i + 1)).flatMap fun a => (List.range n).map fun b => [a, b]).map tD) ?_) fun p us H4 hp e4 h4 i4 E4 => ?_
    · rw [allE, List.map_append, List.map_map]
      rfl
    · refine ⟨p, fun z => ?_, e2.trans e4, e4.lst hf (norow_len (by simp)), ⟨us, h4, i4⟩, E4.drop 3⟩
      rw [← z, hf] at hp
      cases hp
  rintro σ2 H2 ⟨pl, plf, e2, hf, Ll, E2⟩
  refine q_while (K := K) (B := B) (fun m σ' H' => ∃ (dn left : List (List Nat)) (ls : List (List (List Nat))) (as : List Addr) (pl : Addr), pf ≠ pl ∧ Ex K B H H' ∧ H' pf = some (.lst (as.map V.ref)) ∧ FL H' pf as ls ∧ LP ts dn ls ∧ Lo H' pl (left.map tD) ∧ Env B σ' H' [some (.d (hD n ts)), some (.r pl), some (.r pf), none, none, none, none, none, none] ∧ dn ++ reps (rRT (leadP ts)) left = reps (rRT (leadP ts)) (allP n) ∧ (∀ x ∈ left, x ∈ allP n) ∧ left.length + dn.length ≤ 64 ∧ as.length = dn.length ∧ m = left.length) _
    ⟨[], allP n, [], [], pl, plf, e2, hf, .nil, .nil, Ll, E2, rfl, fun x h => h, by rw [allP_len]; simpa using nn, rfl, rfl⟩ ?_
  rintro m σ3 H3 ⟨dn, left, ls, as, pl, plf, e3, hf, FF, LL, Ll, E3, hrep, hlt, hlen, has, rfl⟩
  refine ⟨_, _, E3, et_test (ev_op (ev_varL (i := 1) rfl Ll (row_tD _)) (EvN.ev (en_lst ea_nil (Nat.le_of_ble_eq_true rfl)) rfl) (o_neD ((shp_lT _).ok (by decide)) ((shp_lT []).ok (by decide)))), fun hb H4 e4 E4 => ?_, fun hb H4 e4 E4 => ?_⟩
  · obtain ⟨x, rest, rfl⟩ : ∃ x rest, left = x :: rest := by
      rw [List.map_nil, eqv_nil] at hb
      cases left with
      | nil => simp at hb
      | cons a b => exact ⟨a, b, rfl⟩
    have hx : x ∈ allP n := hlt x List.mem_cons_self
    have Ll4 := Ll.mono (row_tD _) e4
    have hf4 := e4.lst hf (norow_as as)
    have FF4 := FF.mono e4
    have hd0 : ∀ H, Lo H pl ((x :: rest).map tD) → Ev K B (tOp (rIxL K) (tVar 1) (tC (.int 0))) [some (.d (hD n ts)), some (.r pl), some (.r pf), none, none, none, none, none, none] H (.d (tD x)) := fun H L => ev_op (ev_varL (i := 1) rfl L (row_tD _)) ev_int (o_ixD (j := 0) rfl)
    refine q_twoNN (K := K) (i := 5) (j := 6) (ds := [tD x]) (es := [tD x]) E4 (en_lst (ds := [tD x]) (ea1 (hd0 H4 Ll4)) (Nat.le_of_ble_eq_true rfl)) rfl (fun H5 e5 => en_lst (ds := [tD x]) (ea1 (hd0 H5 (Ll4.mono (row_tD _) e5))) (Nat.le_of_ble_eq_true rfl)) rfl fun pd ph H5 hpd hph pdh e5 Ld Lh E5 => ?_
    have C0 : Clo (leadP ts) x (allP n) [x] [x] := Clo.start hx
    have al := allP_len n
    have hcl : ∀ u ∈ allP n, ∀ y ∈ leadP ts u, y ∈ allP n := fun u hu y hy => by
      obtain ⟨t, ht, rfl⟩ := List.mem_map.mp hy
      obtain ⟨x1, x2⟩ := allP_mem.mp hu
      refine allP_mem.mpr ⟨by simpa [ap2] using x1, fun z hz => ?_⟩
      obtain ⟨u', hu', rfl⟩ := List.mem_map.mp hz
      exact (ho.ok t ht).at (x2 u' hu')
    refine q_while (K := K) (B := B) (fun m σ' H' => ∃ found here, Clo (leadP ts) x (allP n) found here ∧ found[0]? = some x ∧ Ex K B H4 H' ∧ Lo H' pd (found.map tD) ∧ Lo H' ph (here.map tD) ∧ Env B σ' H' [some (.d (hD n ts)), some (.r pl), some (.r pf), none, none, some (.r pd), some (.r ph), none, none] ∧ m = 2 * ((allP n).length - found.length) + here.length) _
      ⟨[x], [x], C0, rfl, e5, Ld, Lh, E5, rfl⟩ ?_
    rintro m σ6 H6 ⟨found, here, C, f0, e6, Ld6, Lh6, E6, rfl⟩
    have hz := C.hlen
    have fz := C.flen
    refine ⟨_, _, E6, et_test (ev_op (ev_varL (i := 6) rfl Lh6 (row_tD _)) (EvN.ev (en_lst ea_nil (Nat.le_of_ble_eq_true rfl)) rfl) (o_neD ((shp_lT _).ok (by decide)) ((shp_lT []).ok (by decide)))), fun hb H7 e7 E7 => ?_, fun hb H7 e7 E7 => ?_⟩
    · obtain ⟨hs, one, rfl⟩ : ∃ hs one, here = hs ++ [one] := by
        rcases List.eq_nil_or_concat here with z | ⟨hs, one, z⟩
        · rw [z, List.map_nil, eqv_nil] at hb; simp at hb
        · exact ⟨hs, one, by rw [z, List.concat_eq_append]⟩
      have C1 := C.pop
      have oS : one ∈ allP n := C1.fS one C1.one
      have L7 := Lh6.mono (row_tD _) e7
      rw [List.map_append] at L7
      refine q_pop (K := K) E7 (i := 6) (j := 7) rfl L7 (lf_snoc _ _) fun v8 H8 m8 L8 i8 => ?_
      have E8 := (m8.env E7 (by simp [lfO, lfS, lf_hD])).set (i := 7) (s := .d (tD one)) i8
      obtain ⟨o1, o2⟩ := allP_mem.mp oS
      match one, o1, o2, C1, oS, E8 with
      | [u, z], _, o2, C1, oS, E8 =>
      have hu := o2 u (by simp)
      have hz' := o2 z (by simp)
      refine s_forT (K := K) (B := B) (ds := ts.map tD) E8 (ev_op (ev_var (i := 0) (s := .d (hD n ts)) rfl) ev_int (o_ixT (j := 1) rfl)) (lf_tDs _) (fun i σ' H' => ∃ found' here', CloI (leadP ts) x (allP n) [u, z] ((ts.take i).map fun t => ap2 t [u, z]) found' here' ∧ found'[0]? = some x ∧ Ex K B H4 H' ∧ Lo H' pd (found'.map tD) ∧ Lo H' ph (here'.map tD) ∧ Env B σ' H' [some (.d (hD n ts)), some (.r pl), some (.r pf), none, none, some (.r pd), some (.r ph), some (.d (tD [u, z])), none] ∧
        2 * ((allP n).length - found'.length) + here'.length + 1 ≤ 2 * ((allP n).length - found.length) + (hs ++ [[u, z]]).length) ?_ ?_ ?_
      · exact fun H9 e9 E9 => ⟨found, hs, C1, f0, (m8.ex (e6.trans e7) hph).trans e9, (m8.lo (Ld6.mono (row_tD _) e7) (row_tD _) (lf_tDs _) pdh).mono (row_tD _) e9, L8.mono (row_tD _) e9, E9, by simp; omega⟩
      · rintro i d v σ9 H9 hd iv ⟨found', here', C9, f9, e9, Ld9, Lh9, E9, hm⟩
        rw [List.getElem?_map] at hd
        obtain ⟨t, ht', rfl⟩ := Option.map_eq_some_iff.mp hd
        have tm : t ∈ ts := List.mem_of_getElem? ht'
        have ht := ho.ok t tm
        have take : ((ts.take (i + 1)).map fun t => ap2 t [u, z]) = ((ts.take i).map fun t => ap2 t [u, z]) ++ [ap2 t [u, z]] := by
          rw [List.take_add_one, ht', List.map_append]
          rfl
        have yst : ap2 t [u, z] ∈ leadP ts [u, z] := List.mem_map.mpr ⟨t, tm, rfl⟩
        have E10 := E9.set (i := 8) (s := .d (tD t)) iv
        have fz9 := C9.flen
        have hz9 := C9.hlen
        have pr : ∀ {a b c d e f g : Option Sl} H (j y : Nat), [nD u, nD z][j]? = some (nD y) → Ev K B (tOp (rIxT K) (tVar 7) (tC (.int (j : Int)))) [a, b, c, d, e, f, g, some (.d (tD [u, z])), some (.d (tD t))] H (.d (nD y)) := fun H j y hy => ev_op (ev_var (i := 7) (s := .d (tD [u, z])) rfl) ev_int (o_ixT (j := j) hy)
        refine q_asg (K := K) (i := 4) (s := .d (tD (ap2 t [u, z]))) E10 (ev_tup (ds := [nD (t.getD u 0), nD (t.getD z 0)]) (ea2 (ev_op (ev_var (i := 8) (s := .d (tD t)) rfl) (pr _ 0 u rfl) (o_ixT (at_nD (by rw [ht.len]; exact hu)))) (ev_op (ev_var (i := 8) (s := .d (tD t)) rfl) (pr _ 1 z rfl) (o_ixT (at_nD (by rw [ht.len]; exact hz'))))) (Nat.le_of_ble_eq_true rfl)) fun v11 H11 e11 i11 E11 => ?_
        have Ld11 := Ld9.mono (row_tD _) e11
        have Lh11 := Lh9.mono (row_tD _) e11
        refine s_if (K := K) E11 ((et_test (ev_op (ev_var (i := 4) (s := .d (tD (ap2 t [u, z]))) rfl) (ev_varL (i := 5) rfl Ld11 (row_tD _)) (o_notInD ((shp_tD _).ok (by decide)) ((shp_lT _).ok (by decide))))).to (c := !decide (ap2 t [u, z] ∈ found')) (by rw [any_tD])) (fun hb H12 e12 E12 => ?_) fun hb H12 e12 E12 => ?_
        · have hnot : ap2 t [u, z] ∉ found' := by simpa using hb
          have C12 := C9.add hnot yst (hcl _ oS _ yst)
          rw [← take] at C12
          have fz12 := C12.flen
          have hz12 := C12.hlen
          simp only [List.length_append, List.length_cons, List.length_nil] at fz12 hz12 hm
          refine q_append (K := K) E12 (i := 5) rfl (Ld11.mono (row_tD _) e12) (row_tD _) (lf_tDs _) (by rw [List.length_map]; omega) (ev_var (i := 4) (s := .d (tD (ap2 t [u, z]))) rfl) (lf_tD _) fun H13 m13 L13 => ?_
          have E13 := m13.env E12 (by simp [lfO, lfS, lf_tD, lf_hD])
          refine s_append (K := K) E13 (i := 6) rfl (m13.lo (Lh11.mono (row_tD _) e12) (row_tD _) (lf_tDs _) pdh.symm) (row_tD _) (lf_tDs _) (by rw [List.length_map]; omega) (ev_var (i := 4) (s := .d (tD (ap2 t [u, z]))) rfl) (lf_tD _) fun H14 m14 L14 => ?_
          have E14 := m14.env E13 (by simp [lfO, lfS, lf_tD, lf_hD])
          rw [map_snoc] at L13 L14
          refine ⟨⟨_, _, C12, ?_, m14.ex (m13.ex ((e9.trans e11).trans e12) hpd) hph, m14.lo L13 (row_tD _) (lf_tDs _) pdh, L14, (E14.drop 4).drop 8, ?_⟩, ((e11.tk.trans e12.tk).trans m13.tk).trans m14.tk⟩
          · rw [List.getElem?_append_left (List.getElem?_eq_some_iff.mp f9).1]
            exact f9
          · simp only [List.length_append, List.length_cons, List.length_nil]
            omega
        · have hy' : ap2 t [u, z] ∈ found' := by simpa using hb
          refine ⟨⟨found', here', ?_, f9, (e9.trans e11).trans e12, Ld11.mono (row_tD _) e12, Lh11.mono (row_tD _) e12, (E12.drop 4).drop 8, hm⟩, e11.tk.trans e12.tk⟩
          rw [take]
          exact C9.skip hy'
      · rintro σ9 H9 ⟨found', here', C9, f9, e9, Ld9, Lh9, E9, hm⟩
        rw [List.length_map, List.take_length] at C9
        exact ⟨_, by omega, found', here', C9.fin fun y hy => hy, f9, e9, Ld9, Lh9, E9.drop 7, rfl⟩
    · have hh : here = [] := by
        rw [List.map_nil, eqv_nil] at hb
        cases here with
        | nil => rfl
        | cons a b => simp at hb
      subst hh
      have e47 := e6.trans e7
      have hf7 := e47.lst hf4 (norow_as as)
      have pdf : pd ≠ pf := fun z => by
        rw [z, hf4] at hpd
        cases hpd
      refine q_appendR (K := K) E7 (i := 2) (j := 5) (q := pd) rfl rfl hf7 (by simp at hlen; omega) fun H8 m8 hf8 => ?_
      have E8 := m8.env E7 (by simp [lfO, lfS, lf_hD])
      have Ld8 := m8.lo (Ld6.mono (row_tD _) e7) (row_tD _) (lf_tDs _) pdf
      have Ll8 := m8.lo (Ll4.mono (row_tD _) e47) (row_tD _) (lf_tDs _) plf.symm
      have FF8 := ((FF4.mono e47).mt m8).snoc Ld8 pdf
      have LL8 := LL.snoc f0 (fun y => C.done y) C.fN
      have xin : x ∈ found := C.x0f
      refine s_asgN (K := K) E8 (i := 1) (ds := ((x :: rest).filter fun y => !decide (y ∈ found)).map tD) (en_lc (enc := tD) (xs := x :: rest) (keep := fun y => !decide (y ∈ found)) (val := tD) (G' := fun y => [some (.d (hD n ts)), some (.r pl), some (.r pf), none, none, some (.r pd), some (.r ph), some (.d (tD y)), none])
        (src_L (ev_varL (i := 1) rfl Ll8 (row_tD _))) (by simp at hlen ⊢; omega) (fun y hy => tgt_name (j := 7) (wipe1 7)) (fun y hy => (et_test (ev_op (ev_var (i := 7) (s := .d (tD y)) rfl) (ev_varL (i := 5) rfl Ld8 (row_tD _)) (o_notInD ((shp_tD _).ok (by decide)) ((shp_lT _).ok (by decide))))).to (by rw [any_tD])) (fun y hy _ => ⟨ev_var (i := 7) rfl, lf_tD _⟩) (hom_tup fun d ⟨a, _, _, e⟩ => ⟨_, e⟩)) fun pl' us H9 hpl' e9 h9 i9 E9 => ?_
      have fl : (x :: rest).filter (fun y => !decide (y ∈ found)) = rest.filter fun y => !rRT (leadP ts) x y := by
        rw [List.filter_cons_of_neg (by simp [xin])]
        refine List.filter_congr fun y _ => ?_
        congr 1
        by_cases q : y ∈ found
        · rw [decide_eq_true q, rRT_iff.mpr ((C.done y).mp q)]
        · rw [decide_eq_false q]
          cases e : rRT (leadP ts) x y with
          | false => rfl
          | true => exact absurd ((C.done y).mpr (rRT_iff.mp e)) q
      have flen : (rest.filter fun y => !rRT (leadP ts) x y).length ≤ rest.length := List.length_filter_le _ _
      refine ⟨_, ?_, dn ++ [x], _, _, as ++ [pd], pl', fun z => ?_, (m8.ex ((e3.trans e4).trans e47) hpf).trans e9, e9.lst hf8 (norow_as _), FF8.mono e9, LL8, ⟨us, h9, i9⟩, (E9.drop 5).drop 6, ?_, fun y hy => hlt y (List.mem_filter.mp hy).1, ?_, by simp [has], rfl⟩
      · rw [fl]
        simp
        omega
      · rw [← z, hf8] at hpl'
        cases hpl'
      · rw [reps_cons] at hrep
        rw [← hrep, fl, List.append_assoc]
        rfl
      · rw [fl]
        simp at hlen ⊢
        omega
  · rw [List.map_nil, eqv_nil] at hb
    have hl : left = [] := by
      cases left with
      | nil => rfl
      | cons x y => simp at hb
    subst hl
    rw [reps_nil, List.append_nil] at hrep
    rw [hrep] at LL
    obtain ⟨v, h1, h2⟩ := E4.at_ 2 _ rfl
    refine ⟨v, h1, ?_⟩
    rw [show v = .ref pf from h2]
    exact k pf _ ls H4 (hpf) (e3.trans e4) (e4.lst hf (norow_as as)) (FF.mono e4).is LL
end
end NB
set_option maxHeartbeats 2000000
/-! alike says True of equal data -/
namespace NB
open PySem PySem.Spec PyProof.Rows L2
/-- ints and truths, in lists and tuples, so deep -/
def AD : Nat → PyData → Prop
  | 0, d => (∃ i, d = .int i) ∨ ∃ b, d = .bool b
  | m + 1, d => (∃ i, d = .int i) ∨ (∃ b, d = .bool b) ∨ ∃ ds, (d = .tuple ds ∨ d = .list ds) ∧ ds.length ≤ 900 ∧ ∀ x ∈ ds, AD m x
def CAl (m : Nat) (ds : List PyData) (e : PyData) : Prop := ∃ d, ds = [d, d] ∧ e = .bool true ∧ AD m d
section
variable {P : Program} {w : World} {K : PySem.W.Frag} {mg : Str → Option Value} {base : Heap} {B : Tbs} {Γ : Ga} {σ : St} {H H' : Hp} {te ta tb tn : TE} {D : Ends}
theorem alike_base (D : Dd K mg "_law_alike" s_law_alike) : Pr P w K mg base 1 "_law_alike" ["_law_found", "_law_due"] (spD K B fun _ _ => False) :=
  pr_of (N := N_law_alike) D sc_law_alike (b2 fun _ _ _ _ _ _ _ _ => rfl) (fun vs H Q E ⟨_, _, _, _, h, _⟩ => h.elim) fun f cdv A outer s H vs Q E hr ⟨_, _, _, _, h, _⟩ => h.elim
/-- the scalar's tests -/
theorem alike_step {m kk : Nat} {C : List PyData → PyData → Prop} (hC : ∀ d, AD m d → (∃ i, d = .int i) ∨ (∃ b, d = .bool b) ∨ ∃ ds, (d = .tuple ds ∨ d = .list ds) ∧ ds.length ≤ 900 ∧ ∀ x ∈ ds, C [x, x] (.bool true)) (D : Dd K mg "_law_alike" s_law_alike) (G : Bl mg) (Da : Pr P w K mg base kk "_law_alike" ["_law_found", "_law_due"] (spD K B C)) :
    Pr P w K mg base (kk + 1) "_law_alike" ["_law_found", "_law_due"] (spD K B (CAl m)) := by
  refine pr_of D sc_law_alike (b2 fun _ _ _ _ _ _ _ _ => rfl) (spD_len (n := 2) fun ds d ⟨_, h, _⟩ => by rw [h]; rfl) fun f cdv A outer s H vs Q E hr h => ⟨_, (wt_law_alike G Da hr).2, ?_⟩
  obtain ⟨tb, ds, e, hI, ⟨d, rfl, rfl, hd⟩, k⟩ := h
  have E0 := env_start (N := N_law_alike) tb (slsOk_data hI) (by rw [hI.len]; exact Nat.le_of_ble_eq_true rfl)
  unfold wt_law_alike
  dsimp only [List.map]
  have v0 : ∀ {a : Option Sl} H, Ev K B (tVar 0) [some (.d d), some (.d d), a] H (.d d) := fun H => ev_var rfl
  have v1 : ∀ {a : Option Sl} H, Ev K B (tVar 1) [some (.d d), some (.d d), a] H (.d d) := fun H => ev_var rfl
  rcases hC d hd with ⟨i, rfl⟩ | ⟨b, rfl⟩ | ⟨ds, hds, hz, hx⟩
  · refine q_no (K := K) E0 (et_B (ev_isiT (v1 H) rfl)) fun H1 e1 E1 => ?_
    refine q_no (K := K) E1 (et_or (a := false) (b := false) (et_test (ev_op (v1 H1) ev_non ?_)) fun _ => et_B (ev_isi (v1 H1) rfl)) fun H2 e2 E2 => ?_
    · intro x y H2 _ _ hx hy Q q
      cases (show Is H2 x (.int i) from hx)
      cases (show Is H2 y .none from hy)
      exact ⟨rfl, q _ H2 (Ex.refl K H2) (.bl _)⟩
    · refine s_ret (K := K) E2 ((ev_andV (a := true) (ev_isi (v0 H2) rfl) fun _ => ev_andV (a := decide (false = false)) (ev_op (ev_isi (v0 H2) rfl) (ev_isi (v1 H2) rfl) o_eqB) fun _ => ev_op (v0 H2) (v1 H2) o_eqI).to (e := .bool true) (by simp)) fun v H3 e3 v3 => k v H3 ((e1.trans e2).trans e3) v3
  · refine q_no (K := K) E0 (et_B (ev_isiT (v1 H) rfl)) fun H1 e1 E1 => ?_
    refine q_no (K := K) E1 (et_or (a := false) (b := false) (et_test (ev_op (v1 H1) ev_non ?_)) fun _ => et_B (ev_isi (v1 H1) rfl)) fun H2 e2 E2 => ?_
    · intro x y H2 _ _ hx hy Q q
      cases (show Is H2 x (.bool b) from hx)
      cases (show Is H2 y .none from hy)
      exact ⟨rfl, q _ H2 (Ex.refl K H2) (.bl _)⟩
    · refine s_ret (K := K) E2 ((ev_andV (a := true) (ev_isi (v0 H2) rfl) fun _ => ev_andV (a := decide (true = true)) (ev_op (ev_isi (v0 H2) rfl) (ev_isi (v1 H2) rfl) o_eqB) fun _ => ev_op (v0 H2) (v1 H2) o_eqB).to (e := .bool true) (by simp)) fun v H3 e3 v3 => k v H3 ((e1.trans e2).trans e3) v3
  · have hcase : ∃ bl : Bool, (bl = true ↔ d = .list ds) ∧ PySem.W.kitAny K (.type (tyD d)) [.type "tuple", .type "list"] = some true ∧ PySem.W.kitOne K (.type (tyD d)) (.type "list") = some bl := by
      rcases hds with rfl | rfl
      · exact ⟨false, by simp, rfl, rfl⟩
      · exact ⟨true, by simp, rfl, rfl⟩
    obtain ⟨bl, _, ka, kl⟩ := hcase
    have ln : ∀ {i : Nat} {a : Option Sl} H, ([some (.d d), some (.d d), a] : Ga)[i]? = some (some (.d d)) → Ev K B (tCB (rLn K) (tCons (tVar i) tNil)) [some (.d d), some (.d d), a] H (.d (nD ds.length)) := fun {i a} H hi => by
      rcases hds with rfl | rfl
      · exact ev_lenT (ev_var hi)
      · exact ev_len (ev_var hi)
    have ix : ∀ {i : Nat} {a : Option Sl} H (j : Nat) (x : PyData), ([some (.d d), some (.d d), a] : Ga)[i]? = some (some (.d d)) → ([some (.d d), some (.d d), a] : Ga)[2]? = some (some (.d (nD j))) → ds[j]? = some x → Ev K B (tOp (rIxE K) (tVar i) (tVar 2)) [some (.d d), some (.d d), a] H (.d x) := fun {i a} H j x hi ha hj => by
      rcases hds with rfl | rfl
      · exact ev_op (ev_var hi) (ev_var (s := .d (nD j)) ha) (o_ixET hj)
      · exact ev_op (ev_var hi) (ev_var (s := .d (nD j)) ha) (o_ixEL hj)
    refine q_if (K := K) (b := true) E0 (et_B (ev_isiT (v1 H) ka)) (fun _ H1 e1 E1 => ?_) fun z => nomatch z
    refine q_no (K := K) E1 (et_or (a := false) (b := false) (et_not (a := true) (et_B (ev_isiT (v0 H1) ka))) fun _ => (et_test (ev_op (ev_isi (v0 H1) kl) (ev_isi (v1 H1) kl) o_neB)).to (by simp)) fun H2 e2 E2 => ?_
    refine q_no (K := K) E2 ((et_test (ev_op (ln H2 rfl) (ln H2 rfl) o_neN)).to (by simp)) fun H3 e3 E3 => ?_
    refine s_ret (K := K) E3 ((ev_op (EvN.ev ((en_lc (enc := nD) (xs := List.range ds.length) (keep := fun _ => false) (val := nD) (G' := fun j => [some (.d d), some (.d d), some (.d (nD j))]) (src_R (n := ds.length) (ln H3 rfl) (by omega)) (by simp; omega) (fun j _ => tgt_name (j := 2) (wipe1 2)) (fun j hj => ?_) (fun j _ z => nomatch z) (hom_int fun d ⟨x, _, _, e⟩ => ⟨_, e⟩)).to (d := ((List.range ds.length).filter fun _ => false).map nD) (q := (by simp : _ = ([] : List PyData)))) rfl) (EvN.ev (en_lst ea_nil (Nat.le_of_ble_eq_true rfl)) rfl) (o_eqD ((shp_lN []).ok (by decide)) ((shp_lN []).ok (by decide)))).to (e := .bool true) ?_) fun v H4 e4 v4 => k v H4 (((e1.trans e2).trans e3).trans e4) v4
    · have hj := List.mem_range.mp hj
      have hx1 : ds[j]? = some ds[j] := List.getElem?_eq_getElem hj
      exact et_not (a := true) (et_B (ev_call (ds := [ds[j], ds[j]]) (ea2 (ix H3 j _ rfl rfl hx1) (ix H3 j _ rfl rfl hx1)) (hx _ (List.getElem_mem hj))))
    · rw [List.map_nil, eqv_nil]
      rfl
theorem pr_law_alike (D : Dd K mg "_law_alike" s_law_alike) (G : Bl mg) : ∀ m, Pr P w K mg base (m + 2) "_law_alike" ["_law_found", "_law_due"] (spD K B (CAl m))
  | 0 => alike_step (fun d h => h.elim .inl fun h => .inr (.inl h)) D G (alike_base D)
  | m + 1 => alike_step (m := m + 1) (C := CAl m) (fun d h => by
      rcases h with h | h | ⟨ds, h1, h2, h3⟩
      · exact .inl h
      · exact .inr (.inl h)
      · exact .inr (.inr ⟨ds, h1, h2, fun x hx => ⟨x, rfl, rfl, h3 x hx⟩⟩)) D G (pr_law_alike D G m)
end
end NB
set_option maxHeartbeats 2000000
/-! the law's members and undone: tuples whose dict is known to be none -/
namespace NB
open PySem PySem.Spec PyProof.Rows L2
def FT (H : Hp) (a : Addr) (t : List Nat) : Prop := ∃ ob : Obj, H a = some (.frz ob (.tup (t.map nV))) ∧ ob.dict = none
def Fk (H H' : Hp) : Prop := ∀ a ob u, H a = some (.frz ob u) → H' a = some (.frz ob u)
section
variable {P : Program} {w : World} {K : PySem.W.Frag} {mg : Str → Option Value} {base : Heap} {B : Tbs} {Γ : Ga} {σ : St} {H H' : Hp} {te ta tb tn tk : TE} {D : Ends} {tz : TS} {t : List Nat} {ds : List PyData}
theorem Ex.fk (e : Ex K B H H') : Fk H H' := fun a ob u h => e.fx a _ h fix_frz
theorem Mt.fk {p : Addr} (m : Mt K B H p H') : Fk H H' := by
  obtain ⟨H1, o, e1, pl, rfl⟩ := m
  intro a ob u h
  have h1 := e1.fx a _ h fix_frz
  have ne : a ≠ p := fun z => by
    rw [← z, h1] at pl
    exact pl
  rw [upd_ne ne]
  exact h1
theorem FT.keep {a : Addr} (h : FT H a t) (k : Fk H H') : FT H' a t := by
  obtain ⟨ob, h1, h2⟩ := h
  exact ⟨ob, k _ _ _ h1, h2⟩
theorem FT.is {a : Addr} (h : FT H a t) : Is H (.ref a) (tD t) := by
  obtain ⟨ob, h1, h2⟩ := h
  exact tD_is (.inr ⟨ob, h1⟩)
theorem ev_varR {i : Nat} {p : Addr} {d : PyData} (hi : Γ[i]? = some (some (.r p))) (h : Is H (.ref p) d) : Ev K B (tVar i) Γ H (.d d) := fun σ H1 E e Q q => by
  obtain ⟨v, h1, h2⟩ := E.at_ i _ hi
  have hv : v = .ref p := h2
  exact ⟨v, h1, q v H1 (Ex.refl K H1) (by rw [hv]; exact Is.mono e h)⟩
def EvF (K : PySem.W.Frag) (B : Tbs) (te : TE) (Γ : Ga) (H : Hp) (t : List Nat) : Prop :=
  ∀ σ H1, Env B σ H1 Γ → Ex K B H H1 → ∀ Q : VK, (∀ a H2, Ex K B H1 H2 → FT H2 a t → Q (.ref a) H2) → te σ H1 Q
theorem EvF.ev (h : EvF K B te Γ H t) : Ev K B te Γ H (.d (tD t)) := fun σ H1 E e Q q => h σ H1 E e Q fun a H2 e2 f => q _ H2 e2 f.is
theorem ef_tupRF {n : Nat} (h : Ev K B te Γ H (.d (nD n))) (hn : n ≤ 1000) : EvF K B (tTupRF (tRg1 te)) Γ H (List.range n) := fun σ H1 E e Q q =>
  h σ H1 E e _ fun v H2 e2 v2 => by
    cases (show Is H2 v (.int (n : Int)) from v2)
    refine ⟨(n : Int), rfl, rgOk_nat hn, fun p ob hp hd => ?_⟩
    rw [rgV_nat]
    exact q _ _ (e2.trans (Ex.new hp)) ⟨ob, upd_same, hd⟩
theorem ef_tupN (h : EvN K B te Γ H (t.map nD)) : EvF K B (tCB (rTupF K) (tCons te tNil)) Γ H t := fun σ H1 E e Q q =>
  h σ H1 E e _ fun p vs H2 hp e2 h2 i2 => by
    rw [isAll_nat_eq i2] at h2
    exact ⟨p, _, rfl, .inl (.inl h2), fun l ob hl hd => q _ _ (e2.trans (Ex.new hl)) ⟨ob, upd_same, hd⟩⟩
def DkF (P : Program) (w : World) (H : Hp) (p : Addr) (ks : List (List Nat)) : Prop := ∃ xs : KA, H p = some (DicO P w p xs) ∧ xs.map (·.1) = ks.map keyN ∧ ∀ x ∈ xs, ∃ ob : Obj, H x.2 = some (.frz ob (.tup (x.1.map kV))) ∧ ob.dict = none
theorem DkF.x {p : Addr} {ks : List (List Nat)} (h : DkF P w H p ks) : DkX P w H p ks := by
  obtain ⟨xs, h1, h2, h3⟩ := h
  refine ⟨xs, h1, fun x hx => ?_, h2⟩
  obtain ⟨ob, h4, _⟩ := h3 x hx
  exact .inr ⟨ob, h4⟩
theorem DkF.keep {p : Addr} {ks : List (List Nat)} (h : DkF P w H p ks) (f : Fk H H') (e : ∀ o, H p = some o → Fix o → H' p = some o) : DkF P w H' p ks := by
  obtain ⟨xs, h1, h2, h3⟩ := h
  refine ⟨xs, e _ h1 fix_ext, h2, fun x hx => ?_⟩
  obtain ⟨ob, h4, h5⟩ := h3 x hx
  exact ⟨ob, f _ _ _ h4, h5⟩
theorem DkF.mono {p : Addr} {ks : List (List Nat)} (h : DkF P w H p ks) (e : Ex K B H H') : DkF P w H' p ks := h.keep e.fk fun o => e.fx p o
theorem DkF.mt {p q : Addr} {ks : List (List Nat)} (h : DkF P w H p ks) (m : Mt K B H q H') (ne : p ≠ q) : DkF P w H' p ks := h.keep m.fk fun o h f => m.at h f ne
theorem q_parXF {i j : Nat} (E : Env B σ H Γ) (ha : ∀ H1, Ex K B H H1 → EvF K B tk Γ H1 t) (hb : ∀ H1, Ex K B H H1 → EvN K B tb Γ H1 ds)
    (k : ∀ p q H', H p = none → H q = none → p ≠ q → Ex K B H H' → DkF P w H' p [t] → Lo H' q ds → Env B ((σ.set i (some (.ref p))).set j (some (.ref q))) H' ((Γ.set i (some (.r p))).set j (some (.r q))) → tz D ((σ.set i (some (.ref p))).set j (some (.ref q))) H') : tSeq (tPar i j (tCons (tDisX P w tk) (tCons tb tNil))) tz D σ H := fun p hp => by
  have e1 : Ex K B H (upd H p (DicO P w p [])) := Ex.new hp
  refine ha _ e1 σ _ (E.mono e1) (Ex.refl K _) _ fun b H2 e2 f2 => ?_
  have hp2 : H2 p = some (DicO P w p []) := e2.fx p _ upd_same fix_ext
  obtain ⟨ob, f3, f4⟩ := f2
  have pl : Plain (H2 p) := by rw [hp2]; exact fun c q => dicO_ne c q
  have nb : b ≠ p := fun z => by
    rw [z, hp2] at f3
    cases f3
  have e3 : Ex K B H (upd H2 p (DicO P w p [(keyN t, b)])) := (e1.trans e2).mut hp pl
  refine ⟨hp2, b, keyN t, rfl, .inr ⟨ob, by rw [keyN_kV]; exact f3⟩, ?_⟩
  have dk : DkF P w (upd H2 p (DicO P w p [(keyN t, b)])) p [t] := ⟨_, upd_same, rfl, fun x hx => by
    rw [List.mem_singleton.mp hx]
    exact ⟨ob, by rw [upd_ne nb, keyN_kV]; exact f3, f4⟩⟩
  refine hb _ e3 σ _ (E.mono e3) (Ex.refl K _) _ fun q us H4 hq e4 h4 i4 => ?_
  refine ⟨_, _, rfl, k p q H4 hp (e3.sm q hq) (fun z => ?_) (e3.trans e4) (dk.mono e4) ⟨us, h4, i4⟩ ((((E.mono e3).mono e4).set (s := .r p) rfl).set (s := .r q) rfl)⟩
  rw [← z, upd_same] at hq
  cases hq
theorem q_asgF {i : Nat} (E : Env B σ H Γ) (h : EvF K B te Γ H t) (k : ∀ a H1, Ex K B H H1 → FT H1 a t → Env B (σ.set i (some (.ref a))) H1 (Γ.set i (some (.r a))) → tz D (σ.set i (some (.ref a))) H1) : tSeq (tAsg te (gName i)) tz D σ H :=
  h σ H E (Ex.refl K H) _ fun a H1 e f => k a H1 e f ((E.mono e).set (s := .r a) rfl)
theorem q_setXF {i j : Nat} {p a : Addr} {ks : List (List Nat)} (E : Env B σ H Γ) (hi : Γ[i]? = some (some (.r p))) (hj : Γ[j]? = some (some (.r a))) (hf : FT H a t) (hd : DkF P w H p ks) (hn : t ∉ ks) (hz : ks.length < 999)
    (k : ∀ H', Mt K B H p H' → DkF P w H' p (ks ++ [t]) → tz D σ H') : tSeq (tAsg (tC (.bl true)) (gSub (tVar i) (tVar j) (tSetX P w))) tz D σ H := by
  refine ⟨_, E.slot hi, _, E.slot hj, ?_⟩
  have pl := hd.x.plain
  obtain ⟨xs, h1, h3, h4⟩ := hd
  obtain ⟨ob, f1, f2⟩ := hf
  have hl : xs.length = ks.length := by simpa using congrArg List.length h3
  have m : Mt K B H p (upd H p (DicO P w p (xs ++ [(keyN t, a)]))) := ⟨H, _, Ex.refl K H, pl, rfl⟩
  refine ⟨p, a, keyN t, xs, rfl, rfl, rfl, .inr ⟨ob, by rw [keyN_kV]; exact f1⟩, h1, fun x hx => ?_, by rw [memK_keyN h3]; simpa using hn, ltline (by omega), k _ m ⟨_, upd_same, by rw [List.map_append, List.map_append, h3]; rfl, fun x hx => ?_⟩⟩
  · obtain ⟨o, h5, _⟩ := h4 x hx
    exact .inr ⟨o, h5⟩
  · rcases List.mem_append.mp hx with z | z
    · obtain ⟨o, h5, h6⟩ := h4 x z
      exact ⟨o, m.fk _ _ _ h5, h6⟩
    · rw [List.mem_singleton.mp z]
      exact ⟨ob, by rw [keyN_kV]; exact m.fk _ _ _ f1, f2⟩
/-! ### undone -/
def spU (K : PySem.W.Frag) (B : Tbs) : Sp := fun vs H Q _ => TbOk B H ∧ ∃ n t a, vs = [.ref a] ∧ FT H a t ∧ IsTn n t ∧ n ≤ 8 ∧ ∀ v H', Ex K B H H' → Is H' v (tD (bck t)) → Q v H'
abbrev PUnd (P : Program) (w : World) (K : PySem.W.Frag) (mg : Str → Option Value) (base : Heap) (B : Tbs) : Prop := Pr P w K mg base 1 "_law_undone" ["_law_turn_here"] (spU K B)
theorem ev_indF {i j : Nat} {a : Addr} {x : Nat} (hi : Γ[i]? = some (some (.r a))) (hf : FT H a t) (nd : t.Nodup) (hx : x ∈ t) (h : Ev K B te Γ H (.d (nD x))) : Ev K B (tIndF K (tVar i) (tCons te tNil)) Γ H (.d (nD (t.idxOf x))) := fun σ H1 E e Q q => by
  obtain ⟨ob, f1, f2⟩ := hf.keep e.fk
  refine ⟨_, E.slot hi, ⟨a, ob, _, rfl, f1, f2⟩, h σ H1 E e _ fun v H2 e2 v2 => ?_⟩
  cases (show Is H2 v (.int (x : Int)) from v2)
  have hl := List.idxOf_lt_length_iff.mpr hx
  refine ⟨a, t.map fun n : Nat => (n : Int), (x : Int), t.idxOf x, rfl, rfl, .inl (.inr ⟨ob, by rw [← nats_int]; exact e2.fk _ _ _ f1⟩), ?_, fun m hm hh => ?_, q _ H2 e2 (.int _)⟩
  · rw [List.getElem?_map, List.getElem?_eq_getElem hl, List.getElem_idxOf]
    rfl
  · rw [List.getElem?_map, List.getElem?_eq_getElem (by omega)] at hh
    have e3 : t[m] = x := by
      have : ((t[m] : Nat) : Int) = (x : Int) := by simpa using hh
      omega
    have e4 : m = t.idxOf x := (List.getElem?_inj (i := m) (by omega) nd).mp (by rw [List.getElem?_eq_getElem (by omega), List.getElem?_eq_getElem hl, List.getElem_idxOf, e3])
    omega
theorem pr_law_undone (D : Dd K mg "_law_undone" s_law_undone) (G : Bl mg) : PUnd P w K mg base B := by
  refine pr_of D sc_law_undone (b1 fun _ _ _ _ _ _ _ => rfl) (fun vs H Q E ⟨_, n, t, a, h, _⟩ => by rw [h]; rfl) fun f cdv A outer s0 H vs Q E hr h => ⟨_, (wt_law_undone G hr).2, ?_⟩
  obtain ⟨tb, n, t, a, rfl, hf, ht, n8, k⟩ := h
  have E0 := env_start2 (N := N_law_undone) [.r a] tb (.cons rfl .nil) (Nat.le_of_ble_eq_true rfl)
  have hl := ht.len
  unfold wt_law_undone
  dsimp only [List.map]
  refine s_ret (K := K) E0 ((ev_tupN (ds := (bck t).map nD) ((en_lcY (enc := nD) (xs := List.range t.length) (val := fun x => nD (t.idxOf x)) (G' := fun x => [some (.r a), some (.d (nD x))]) (src_R (n := t.length) ((ev_lenT (ds := t.map nD) (ev_varR (i := 0) rfl hf.is)).to (by rw [List.length_map])) (by omega)) (by simp; omega) (fun x _ => tgt_name (j := 1) (wipe1 1)) (fun x hx => ⟨ev_indF (i := 0) (j := 0) rfl hf ht.nd (ht.mem.mpr (by rw [← hl]; exact List.mem_range.mp hx)) (ev_var (i := 1) rfl), rfl⟩) (hom_int fun d ⟨x, _, e⟩ => ⟨_, e⟩)).to ?_) (row_nD _)).to (e := tD (bck t)) rfl) fun v H1 e1 v1 => k v H1 e1 v1
  unfold bck
  rw [List.map_map]
  rfl
/-! ### members -/
inductive FTs (H : Hp) : List Addr → List (List Nat) → Prop
  | nil : FTs H [] []
  | cons {a : Addr} {t : List Nat} {as : List Addr} {ts : List (List Nat)} : FT H a t → FTs H as ts → FTs H (a :: as) (t :: ts)
theorem FTs.keep {as : List Addr} {ts : List (List Nat)} (h : FTs H as ts) (k : Fk H H') : FTs H' as ts := by
  induction h with
  | nil => exact .nil
  | cons a b ih => exact .cons (a.keep k) ih
theorem FTs.is {as : List Addr} {ts : List (List Nat)} (h : FTs H as ts) : IsAll H (as.map V.ref) (ts.map tD) := by
  induction h with
  | nil => exact .nil
  | cons a b ih => exact .cons a.is ih
theorem FTs.of {ks : List (List Nat)} : ∀ {xs : KA}, xs.map (·.1) = ks.map keyN → (∀ x ∈ xs, ∃ ob : Obj, H x.2 = some (.frz ob (.tup (x.1.map kV))) ∧ ob.dict = none) → FTs H (xs.map (·.2)) ks := by
  induction ks with
  | nil =>
    intro xs e _
    cases xs with
    | nil => exact .nil
    | cons a b => cases e
  | cons k ks ih =>
    intro xs e h
    cases xs with
    | nil => cases e
    | cons a b =>
      have h1 : a.1 = keyN k := by simpa using (List.cons.inj e).1
      refine .cons ?_ (ih (List.cons.inj e).2 fun x hx => h x (List.mem_cons_of_mem _ hx))
      obtain ⟨ob, h2, h3⟩ := h a List.mem_cons_self
      rw [h1, keyN_kV] at h2
      exact ⟨ob, h2, h3⟩
structure MSF (P : Program) (w : World) (K : PySem.W.Frag) (B : Tbs) (H0 : Hp) (pf ph : Addr) (found here : List Tn) (Γ : Ga) (σ : St) (H : Hp) : Prop where
  ex : Ex K B H0 H
  nf : H0 pf = none
  nh : H0 ph = none
  ne : pf ≠ ph
  df : DkF P w H pf found
  lh : Lo H ph (here.map tD)
  env : Env B σ H Γ
def spMem (K : PySem.W.Frag) (B : Tbs) : Sp := fun vs H Q _ => TbOk B H ∧ ∃ n ts S, IsAll H vs [.tuple (ts.map tD), nD n] ∧ GOk n ts S ∧ ∀ p as ks H', H p = none → Ex K B H H' → H' p = some (.lst (as.map V.ref)) → FTs H' as ks → ks.Perm S → Q (.ref p) H'
abbrev PLMem (P : Program) (w : World) (K : PySem.W.Frag) (mg : Str → Option Value) (base : Heap) (B : Tbs) : Prop := Pr P w K mg base 1 "_law_members" ["_law_maps", "_law_halls"] (spMem K B)
theorem pr_law_members (D : Dd K mg "_law_members" s_law_members) (G : Bl mg) : PLMem P w K mg base B := by
  refine pr_of D sc_law_members (b2 fun _ _ _ _ _ _ _ _ => rfl) (fun vs H Q E ⟨_, n, ts, S, h, _⟩ => by rw [h.len]; rfl) fun f cdv A outer s0 H vs Q E hr h => ⟨_, (wt_law_members G hr).2, ?_⟩
  obtain ⟨tb, n, ts, S, hI, hG, k⟩ := h
  have E0 := env_start (N := N_law_members) tb (slsOk_data hI) (by rw [hI.len]; exact Nat.le_of_ble_eq_true rfl)
  have n8 := hG.ho.n8
  unfold wt_law_members
  dsimp only [List.map]
  refine q_parXF (K := K) (t := List.range n) (ds := [tD (List.range n)]) E0 (fun H1 _ => ef_tupRF (n := n) (ev_var (i := 1) rfl) (by omega)) (fun H1 _ => en_lst (ds := [tD (List.range n)]) (ea1 (ef_tupRF (n := n) (ev_var (i := 1) rfl) (by omega)).ev) (Nat.le_of_ble_eq_true rfl)) fun pf ph H3 hpf hph pfh e3 df lh E3 => ?_
  have M0 : MSF P w K B H pf ph [List.range n] [List.range n] [some (.d (.tuple (ts.map tD))), some (.d (nD n)), some (.r pf), some (.r ph), none, none, none, none] _ H3 :=
    ⟨e3, hpf, hph, pfh, df, lh, E3⟩
  have C0 : Clo (stT ts) (List.range n) S [List.range n] [List.range n] := Clo.start hG.g.one
  refine q_while (K := K) (B := B) (fun m σ' H' => ∃ found here, Clo (stT ts) (List.range n) S found here ∧ MSF P w K B H pf ph found here [some (.d (.tuple (ts.map tD))), some (.d (nD n)), some (.r pf), some (.r ph), none, none, none, none] σ' H' ∧ m = 2 * (S.length - found.length) + here.length) _ ⟨_, _, C0, M0, rfl⟩ ?_
  rintro m σ' H' ⟨found, here, C, M, rfl⟩
  have hz := C.hlen
  have fz := C.flen
  have sz := hG.sz
  refine ⟨_, _, M.env, et_test (ev_op (ev_varL (i := 3) rfl M.lh (row_tD _)) (EvN.ev (en_lst ea_nil (Nat.le_of_ble_eq_true rfl)) rfl) (o_neD ((shp_lT _).ok (by decide)) ((shp_lT []).ok (by decide)))), fun hb H4 e4 E4 => ?_, fun hb H4 e4 E4 => ?_⟩
  · obtain ⟨hs, one, rfl⟩ : ∃ hs one, here = hs ++ [one] := by
      rcases List.eq_nil_or_concat here with z | ⟨hs, one, z⟩
      · rw [z, List.map_nil, eqv_nil] at hb; simp at hb
      · exact ⟨hs, one, by rw [z, List.concat_eq_append]⟩
    have C1 := C.pop
    have oS : one ∈ S := C1.fS one C1.one
    have ot := hG.g.isT oS
    have L4 := M.lh.mono (row_tD _) e4
    rw [List.map_append] at L4
    refine q_pop (K := K) E4 (i := 3) (j := 4) rfl L4 (lf_snoc _ _) fun v5 H5 m5 L5 i5 => ?_
    have lfm : lfAll (ts.map tD) = true := lf_tDs ts
    have E5 := (m5.env E4 (by simp [lfO, lfS, lf, lf_tDs])).set (i := 4) (s := .d (tD one)) i5
    have M5 : MSF P w K B H pf ph found hs [some (.d (.tuple (ts.map tD))), some (.d (nD n)), some (.r pf), some (.r ph), some (.d (tD one)), none, none, none] _ H5 :=
      ⟨m5.ex (M.ex.trans e4) M.nh, M.nf, M.nh, M.ne, (M.df.mono e4).mt m5 M.ne, L5, E5⟩
    refine s_forT (K := K) (B := B) M5.env (ds := ts.map tD) (ev_var (i := 0) rfl) (lf_tDs _) (fun i σ' H' => ∃ found' here', CloI (stT ts) (List.range n) S one ((ts.take i).map fun t => thn one t) found' here' ∧ MSF P w K B H pf ph found' here' [some (.d (.tuple (ts.map tD))), some (.d (nD n)), some (.r pf), some (.r ph), some (.d (tD one)), none, none, none] σ' H' ∧
      2 * (S.length - found'.length) + here'.length + 1 ≤ 2 * (S.length - found.length) + (hs ++ [one]).length) ?_ ?_ ?_
    · exact fun H6 e6 E6 => ⟨found, hs, C1, ⟨M5.ex.trans e6, M.nf, M.nh, M.ne, M5.df.mono e6, M5.lh.mono (row_tD _) e6, E6⟩, by simp; omega⟩
    · rintro i d v σ6 H6 hd iv ⟨found', here', C6, M6, hm⟩
      rw [List.getElem?_map] at hd
      obtain ⟨t, ht, rfl⟩ := Option.map_eq_some_iff.mp hd
      have tm : t ∈ ts := List.mem_of_getElem? ht
      have tt := hG.ho.ok t tm
      have take : ((ts.take (i + 1)).map fun t => thn one t) = ((ts.take i).map fun t => thn one t) ++ [thn one t] := by
        rw [List.take_add_one, ht, List.map_append]
        rfl
      have lS : thn one t ∈ S := hG.g.mul oS (ts_in hG tm)
      have E7 := M6.env.set (i := 5) (s := .d (tD t)) iv
      have fz6 := C6.flen
      have hz6 := C6.hlen
      refine q_asgF (K := K) (i := 6) (t := thn one t) E7 (ef_tupN ((en_lcY (enc := nD) (xs := one) (val := fun x => nD (t.getD x 0)) (G' := fun x => [some (.d (.tuple (ts.map tD))), some (.d (nD n)), some (.r pf), some (.r ph), some (.d (tD one)), some (.d (tD t)), none, some (.d (nD x))]) (src_T (ds := one.map nD) (ev_var (i := 4) rfl)) (by rw [ot.len]; omega) (fun x _ => tgt_name (j := 7) (wipe1 7)) (fun x hx => ⟨ev_op (ev_var (i := 5) (s := .d (tD t)) rfl) (ev_var (i := 7) (s := .d (nD x)) rfl) (o_ixT (at_nD (by rw [tt.len]; exact ot.mem.mp hx))), rfl⟩) (hom_int fun d ⟨x, _, e⟩ => ⟨_, e⟩)).to ?_)) fun a8 H8 e8 f8 E8 => ?_
      · unfold thn
        rw [List.map_map]
        rfl
      have df8 := M6.df.mono e8
      have lh8 := M6.lh.mono (row_tD _) e8
      refine s_if (K := K) E8 (et_notInX (t := thn one t) (p := pf) (i := 2) rfl df8.x (ev_varR (i := 6) rfl f8.is)) (fun hb H9 e9 E9 => ?_) fun hb H9 e9 E9 => ?_
      · have hn : thn one t ∉ found' := by simpa using hb
        have C9 := C6.add hn (by unfold stT; exact List.mem_map.mpr ⟨t, tm, rfl⟩) lS
        rw [← take] at C9
        have fz9 := C9.flen
        have hz9 := C9.hlen
        simp only [List.length_append, List.length_cons, List.length_nil] at hm fz9 hz9
        have f9 := f8.keep e9.fk
        refine q_setXF (K := K) E9 (i := 2) (j := 6) rfl rfl f9 (df8.mono e9) hn (by omega) fun H10 m10 df10 => ?_
        have E10 := m10.env E9 (by simp [lfO, lfS, lf, lf_tDs, lf_tD])
        have lh10 := m10.lo (lh8.mono (row_tD _) e9) (row_tD _) (lf_tDs _) M.ne.symm
        refine s_append (K := K) E10 (i := 3) rfl lh10 (row_tD _) (lf_tDs _) (by rw [List.length_map]; omega) (ev_varR (i := 6) rfl (f9.keep m10.fk).is) (lf_tD _) fun H11 m11 lh11 => ?_
        have E11 := m11.env E10 (by simp [lfO, lfS, lf, lf_tDs, lf_tD])
        refine ⟨⟨_, _, C9, ⟨m11.ex (m10.ex ((M6.ex.trans e8).trans e9) M.nf) M.nh, M.nf, M.nh, M.ne, df10.mt m11 M.ne, by rw [← map_snoc]; exact lh11, (E11.drop 5).drop 6⟩, ?_⟩, ((e8.tk.trans e9.tk).trans m10.tk).trans m11.tk⟩
        simp only [List.length_append, List.length_cons, List.length_nil]
        omega
      · have hy : thn one t ∈ found' := by simpa using hb
        refine ⟨⟨found', here', ?_, ⟨(M6.ex.trans e8).trans e9, M.nf, M.nh, M.ne, df8.mono e9, lh8.mono (row_tD _) e9, (E9.drop 5).drop 6⟩, hm⟩, e8.tk.trans e9.tk⟩
        rw [take]
        exact C6.skip hy
    · rintro σ6 H6 ⟨found', here', C6, M6, hm⟩
      rw [List.length_map, List.take_length] at C6
      exact ⟨_, by omega, found', here', C6.fin fun y hy => hy, ⟨M6.ex, M6.nf, M6.nh, M6.ne, M6.df, M6.lh, M6.env.drop 4⟩, rfl⟩
  · have hh : here = [] := by
      rw [List.map_nil, eqv_nil] at hb
      cases here with
      | nil => rfl
      | cons a b => simp at hb
    subst hh
    refine ⟨_, E4.slot (i := 2) rfl, ?_⟩
    obtain ⟨xs, h1, h2, h3⟩ := M.df.mono e4
    refine ⟨pf, xs, rfl, h1, fun q hq => ?_⟩
    have eN : Ex K B H4 (upd H4 q (.lst (xs.map fun x => V.ref x.2))) := Ex.new hq
    have fts := (FTs.of h2 h3).keep eN.fk
    refine k q (xs.map (·.2)) found _ ((M.ex.trans e4).sm _ hq) ((M.ex.trans e4).trans eN) (by rw [upd_same, List.map_map]; rfl) fts ?_
    exact perm_mem C.fN hG.g.nd fun x => by rw [C.done, stT_rt hG]
end
end NB
set_option maxHeartbeats 1000000
/-! the parts from the pairs -/
namespace NB
def dg (p : List Nat) : Bool := decide (p.getD 0 0 = p.getD 1 0)
theorem reps_filter {α : Type} {r : α → α → Bool} {p : α → Bool} : ∀ (k : Nat) (l : List α), l.length ≤ k → (∀ x ∈ l, ∀ y, r x y = true → p x = p y) → (reps r l).filter p = reps r (l.filter p)
  | 0, l, hl, _ => by
    have : l = [] := List.length_eq_zero_iff.mp (by omega)
    subst this
    simp [reps_nil]
  | k + 1, [], hl, _ => by simp [reps_nil]
  | k + 1, x :: l, hl, h => by
    have h1 := List.length_filter_le (fun y => !r x y) l
    have ih := reps_filter (r := r) (p := p) k (l.filter fun y => !r x y) (by simp at hl; omega) fun z hz => h z (List.mem_cons_of_mem _ (List.mem_filter.mp hz).1)
    rw [reps_cons]
    by_cases q : p x = true
    · rw [List.filter_cons_of_pos q, List.filter_cons_of_pos q, reps_cons, ih, List.filter_filter, List.filter_filter]
      congr 2
      exact List.filter_congr fun y _ => Bool.and_comm _ _
    · rw [List.filter_cons_of_neg q, List.filter_cons_of_neg q, ih, List.filter_filter]
      congr 1
      refine List.filter_congr fun y _ => ?_
      cases e : p y with
      | false => rfl
      | true =>
        cases e2 : r x y with
        | false => rfl
        | true => exact absurd ((h x List.mem_cons_self y e2).trans e) q
theorem reps_map {α β : Type} {r : β → β → Bool} {s : α → α → Bool} {f : α → β} (h : ∀ x y, r (f x) (f y) = s x y) : ∀ (k : Nat) (l : List α), l.length ≤ k → reps r (l.map f) = (reps s l).map f
  | 0, l, hl => by
    have : l = [] := List.length_eq_zero_iff.mp (by omega)
    subst this
    simp [reps_nil]
  | k + 1, [], hl => by simp [reps_nil]
  | k + 1, x :: l, hl => by
    have h1 := List.length_filter_le (fun y => !s x y) l
    have ih := reps_map h k (l.filter fun y => !s x y) (by simp at hl; omega)
    rw [List.map_cons, reps_cons, reps_cons, List.map_cons, ← ih, List.filter_map]
    congr 3
    refine List.filter_congr fun y _ => ?_
    simp [h]
theorem allP_dg (n : Nat) : (allP n).filter dg = (List.range n).map fun a => [a, a] := by
  unfold allP
  rw [List.filter_flatMap]
  have h : ∀ m, m ≤ n → ((List.range m).flatMap fun a => ((List.range n).map fun b => [a, b]).filter dg) = (List.range m).map fun a => [a, a] := by
    intro m
    induction m with
    | zero => intro _; rfl
    | succ m ih =>
      intro hm
      rw [List.range_succ, List.flatMap_append, List.map_append, ih (by omega)]
      congr 1
      simp only [List.flatMap_cons, List.flatMap_nil, List.append_nil, List.map_cons, List.map_nil]
      rw [List.filter_map]
      have e : (List.range n).filter (dg ∘ fun b => [m, b]) = [m] := by
        have e1 : (dg ∘ fun b => [m, b]) = fun b => decide (b = m) := by
          funext b
          show decide (m = b) = decide (b = m)
          by_cases q : b = m
          · subst q; rfl
          · rw [decide_eq_false q, decide_eq_false (fun z => q z.symm)]
        rw [e1]
        refine nat_uniq (List.pairwise_lt_range.sublist List.filter_sublist) (List.pairwise_singleton _ _) fun x => ?_
        rw [List.mem_filter, List.mem_range, List.mem_singleton]
        exact ⟨fun h => of_decide_eq_true h.2, fun h => ⟨by omega, decide_eq_true h⟩⟩
      rw [e]
      rfl
  exact h n (Nat.le_refl _)
theorem rt_pair {ts : List Tn} {a : Nat} {y : List Nat} (h : RT (fun u v => v ∈ leadP ts u) [a, a] y) : ∃ b, y = [b, b] ∧ RT (fun u v => v ∈ leadH ts u) a b := by
  induction h with
  | refl => exact ⟨a, rfl, .refl⟩
  | tail _ s ih =>
    obtain ⟨b, rfl, hb⟩ := ih
    obtain ⟨t, ht, rfl⟩ := List.mem_map.mp s
    exact ⟨t.getD b 0, rfl, hb.tail (List.mem_map.mpr ⟨t, ht, rfl⟩)⟩
theorem pair_rt {ts : List Tn} {a b : Nat} (h : RT (fun u v => v ∈ leadH ts u) a b) : RT (fun u v => v ∈ leadP ts u) [a, a] [b, b] := by
  induction h with
  | refl => exact .refl
  | tail _ s ih =>
    obtain ⟨t, ht, rfl⟩ := List.mem_map.mp s
    exact ih.tail (List.mem_map.mpr ⟨t, ht, rfl⟩)
theorem dd_resp {n : Nat} {ts : List Tn} (ok : ∀ t ∈ ts, IsTn n t) {x y : List Nat} (hx : x ∈ allP n) (h : RT (fun u v => v ∈ leadP ts u) x y) : y ∈ allP n ∧ dg x = dg y := by
  induction h with
  | refl => exact ⟨hx, rfl⟩
  | @tail y z _ s ih =>
    obtain ⟨hy, e⟩ := ih
    obtain ⟨t, ht, rfl⟩ := List.mem_map.mp s
    obtain ⟨h1, h2⟩ := allP_mem.mp hy
    match y, h1, h2 with
    | [u, v], _, h2 =>
    have hu := h2 u (by simp)
    have hv := h2 v (by simp)
    refine ⟨allP_mem.mpr ⟨rfl, fun w hw => ?_⟩, e.trans ?_⟩
    · obtain ⟨q, hq, rfl⟩ := List.mem_map.mp hw
      exact (ok t ht).at (h2 q hq)
    · show decide (u = v) = decide (t.getD u 0 = t.getD v 0)
      by_cases q : u = v
      · subst q; simp
      · rw [decide_eq_false q, decide_eq_false fun z => q (tn_inj (ok t ht) hu hv z)]
/-- the firsts of a lot, ascending, each once -/
def frs (l : List (List Nat)) : List Nat := sortN (reps (fun a b => decide (a = b)) (l.map fun p => p.getD 0 0))
theorem ddN_mem {l : List Nat} {x : Nat} : x ∈ reps (fun a b => decide (a = b)) l ↔ x ∈ l := by
  refine ⟨reps_mem, fun h => ?_⟩
  obtain ⟨y, hy, e⟩ := reps_cov (r := fun a b => decide (a = b)) (fun x => by simp) _ l (Nat.le_refl _) x h
  rw [← of_decide_eq_true e]
  exact hy
theorem lt_of_le {l : List Nat} (h : l.Pairwise (· ≤ ·)) (hn : l.Nodup) : l.Pairwise (· < ·) := (h.and hn).imp fun ⟨h1, h2⟩ => Nat.lt_of_le_of_ne h1 h2
theorem frs_lt (l : List (List Nat)) : (frs l).Pairwise (· < ·) := lt_of_le (sortN_le _) ((sortN_perm _).nodup_iff.mpr ((reps_apart (r := fun a b => decide (a = b)) _ _ (Nat.le_refl _)).imp fun h => of_decide_eq_false h))
theorem frs_mem {l : List (List Nat)} {x : Nat} : x ∈ frs l ↔ ∃ p ∈ l, p.getD 0 0 = x := by
  unfold frs
  rw [(sortN_perm _).mem_iff, ddN_mem, List.mem_map]
theorem frs_part {n : Nat} {ts : List Tn} (ok : ∀ t ∈ ts, IsTn n t) {a : Nat} (ha : a < n) {l : List (List Nat)} (h : ∀ y, y ∈ l ↔ RT (fun u v => v ∈ leadP ts u) [a, a] y) : frs l = sortN (cls (List.range n) (leadH ts) a) := by
  refine nat_uniq (frs_lt l) (lt_of_le (sortN_le _) ((sortN_perm _).nodup_iff.mpr (List.nodup_range.sublist List.filter_sublist))) fun x => ?_
  rw [frs_mem, (sortN_perm _).mem_iff]
  unfold cls
  rw [List.mem_filter, rRT_iff]
  constructor
  · rintro ⟨p, hp, rfl⟩
    obtain ⟨b, rfl, hb⟩ := rt_pair ((h p).mp hp)
    refine ⟨List.mem_range.mpr ?_, hb⟩
    exact hb.inv (P := fun x => x < n) (fun u v hu hv => by
      obtain ⟨t, ht, rfl⟩ := List.mem_map.mp hv
      exact (ok t ht).at hu) ha
  · rintro ⟨_, hb⟩
    exact ⟨[x, x], (h _).mpr (pair_rt hb), rfl⟩
theorem lp_filter {n : Nat} {ts : List Tn} (ok : ∀ t ∈ ts, IsTn n t) {xs : List (List Nat)} {ls : List (List (List Nat))} (h : LP ts xs ls) (hx : ∀ x ∈ xs, x ∈ allP n) : (ls.filter fun l => dg (l.getD 0 [])).map frs = (xs.filter dg).map fun x => sortN (cls (List.range n) (leadH ts) (x.getD 0 0)) := by
  induction h with
  | nil => rfl
  | @cons x l xs ls h1 h2 h3 h4 ih =>
    have ih := ih fun z hz => hx z (List.mem_cons_of_mem _ hz)
    have hd : l.getD 0 [] = x := by rw [List.getD_eq_getElem?_getD, h1]; rfl
    by_cases q : dg x = true
    · rw [List.filter_cons_of_pos (by rw [hd]; exact q), List.filter_cons_of_pos q, List.map_cons, List.map_cons, ih]
      congr 1
      obtain ⟨x1, x2⟩ := allP_mem.mp (hx x List.mem_cons_self)
      match x, x1, x2, q, h2 with
      | [a, b], _, x2, q, h2 =>
      have e : a = b := of_decide_eq_true q
      subst e
      exact frs_part ok (x2 a (by simp)) h2
    · rw [List.filter_cons_of_neg (by rw [hd]; exact q), List.filter_cons_of_neg q, ih]
theorem parts_eq {n : Nat} {ts : List Tn} (ok : ∀ t ∈ ts, IsTn n t) {ls : List (List (List Nat))} (h : LP ts (reps (rRT (leadP ts)) (allP n)) ls) : sortL ((ls.filter fun l => dg (l.getD 0 [])).map frs) = partsN n ts := by
  rw [lp_filter ok h fun x hx => reps_mem hx, reps_filter _ _ (Nat.le_refl _) fun x hx y e => (dd_resp ok hx (rRT_iff.mp e)).2, allP_dg, reps_map (s := rRT (leadH ts)) (fun a b => ?_) _ _ (Nat.le_refl _)]
  · rw [List.map_map]
    rfl
  · cases e : rRT (leadH ts) a b with
    | true => exact rRT_iff.mpr (pair_rt (rRT_iff.mp e))
    | false =>
      cases e2 : rRT (leadP ts) [a, a] [b, b] with
      | false => rfl
      | true =>
        obtain ⟨c, hc, hr⟩ := rt_pair (rRT_iff.mp e2)
        have : b = c := (List.cons.inj hc).1
        subst this
        rw [rRT_iff.mpr hr] at e
        cases e
end NB
set_option maxHeartbeats 2000000
/-! the law's parts -/
namespace NB
open PySem PySem.Spec PyProof.Rows L2
section
variable {P : Program} {w : World} {K : PySem.W.Frag} {mg : Str → Option Value} {base : Heap} {B : Tbs} {Γ : Ga} {σ : St} {H H' : Hp} {te ta tb tl : TE} {D : Ends} {tz : TS} {ds : List PyData}
theorem ev_cR {v : V} {d : PyData} (h : Is H v d) : Ev K B (tC v) Γ H (.d d) := fun σ H1 E e Q q => q v H1 (Ex.refl K H1) (Is.mono e h)
/-- sorted(set(list of ints)) -/
theorem en_sset {ns : List Nat} (h : EvN K B te Γ H (ns.map nD)) (hz : ns.length < 64) : EvN K B (tCB (rSortedSet w) (tCons (tCB (rSetI K w) (tCons te tNil)) tNil)) Γ H ((sortN (reps (fun a b => decide (a = b)) ns)).map nD) := fun σ H1 E e Q q =>
  h σ H1 E e _ fun p us H2 hp e2 h2 i2 => by
    have hu := isAll_nat_eq i2
    rw [hu, nats_int] at h2
    refine ⟨p, _, rfl, .inl (.inl h2), by simp; omega, fun a c ha hc => ?_⟩
    refine ⟨a, _, c, rfl, upd_same, by simp at hc; omega, fun is r hs hm _ hr => ?_⟩
    have key : is = (sortN (reps (fun a b => decide (a = b)) ns)).map fun n : Nat => (n : Int) := by
      refine sorted_uniq (lt := fun (a b : Int) => a < b) (fun x h => by omega) (fun x y z h1 h2 => by omega) hs ?_ fun x => ?_
      · rw [List.pairwise_map]
        refine (lt_of_le (sortN_le _) ((sortN_perm _).nodup_iff.mpr ((reps_apart (r := fun a b => decide (a = b)) _ _ (Nat.le_refl _)).imp fun h => of_decide_eq_false h))).imp fun h => by omega
      · rw [hm, decide_eq_true_iff, List.mem_map, List.mem_map]
        constructor
        · rintro ⟨n, hn, rfl⟩
          exact ⟨n, (sortN_perm _).mem_iff.mpr (ddN_mem.mpr hn), rfl⟩
        · rintro ⟨n, hn, rfl⟩
          exact ⟨n, ddN_mem.mp ((sortN_perm _).mem_iff.mp hn), rfl⟩
    rw [key, ← nats_int]
    exact q r _ _ (e2.sm _ ((Ex.new (K := K) (B := B) ha).sm _ hr)) ((e2.trans (Ex.new ha)).trans (Ex.new hr)) upd_same (isAll_nat _)
theorem q_asgLc {Cq : Addr → List V → Hp → Prop} {i : Nat} {g : TG} {tt : TT} {vs : List Nat} (hc : ∀ Q : VK, (∀ p us H2, Cq p us H2 → Q (.ref p) H2) → tl σ H Q) (hk : ∀ p us H2, Cq p us H2 → tSeq (tAsg (tLc (iList K (tC (.ref p))) g tt te vs) (gName i)) tz D σ H2) :
    tSeq (tAsg (tLc (iList K tl) g tt te vs) (gName i)) tz D σ H := hc _ fun p us H2 c => hk p us H2 c
abbrev PLParts (P : Program) (w : World) (K : PySem.W.Frag) (mg : Str → Option Value) (base : Heap) (B : Tbs) : Prop := Pr P w K mg base 2 "_law_parts" ["_law_house_here"] (spN K B fun ds es => ∃ n ts, ds = [hD n ts] ∧ es = (partsN n ts).map tD ∧ HOkN n ts)
theorem pr_law_parts (D : Dd K mg "_law_parts" s_law_parts) (G : Bl mg) (Dp : PLPairs P w K mg base B) : PLParts P w K mg base B := by
  refine pr_of D sc_law_parts (b1 fun _ _ _ _ _ _ _ => rfl) (spN_len (n := 1) fun ds d ⟨_, _, h, _⟩ => by rw [h]; rfl) fun f cdv A outer s H vs Q E hr h => ⟨_, (wt_law_parts G Dp hr).2, ?_⟩
  obtain ⟨tb, ds, d, hI, ⟨n, ts, rfl, rfl, ho⟩, k⟩ := h
  have E0 := env_start (N := N_law_parts) tb (slsOk_data hI) (by rw [hI.len]; exact Nat.le_of_ble_eq_true rfl)
  have n8 := ho.n8
  have nn : n * n ≤ 8 * 8 := Nat.mul_le_mul n8 n8
  unfold wt_law_parts
  dsimp only [List.map]
  obtain ⟨hv, hv1, hv2⟩ := E0.at_ 0 (.d (hD n ts)) rfl
  refine q_asgLc (Cq := fun p us H2 => ∃ ls, Ex K B H H2 ∧ H2 p = some (.lst us) ∧ IsAll H2 us (ls.map lD) ∧ LP ts (reps (rRT (leadP ts)) (allP n)) ls) (fun Q' q => ⟨hv, hv1, tb, n, ts, .one hv2, ho, fun p us ls H2 hp e h2 i2 lp => q p us H2 ⟨ls, e, h2, i2, lp⟩⟩) fun p us H2 ⟨ls, e2, h2, i2, lp⟩ => ?_
  have il : Is H2 (.ref p) (.list (ls.map lD)) := .lst h2 (norow_of i2 (row_lD _)) i2
  have lsl : ls.length ≤ 64 := by
    rw [lp.len]
    have := reps_len (rRT (leadP ts)) _ (allP n) (Nat.le_refl _)
    rw [allP_len] at this
    omega
  have lok : ∀ l ∈ ls, ∃ x ∈ allP n, l[0]? = some x ∧ (∀ y, y ∈ l ↔ RT (fun a b => b ∈ leadP ts a) x y) ∧ l.Nodup := by
    have key : ∀ {xs : List (List Nat)} {ls : List (List (List Nat))}, LP ts xs ls → (∀ x ∈ xs, x ∈ allP n) → ∀ l ∈ ls, ∃ x ∈ allP n, l[0]? = some x ∧ (∀ y, y ∈ l ↔ RT (fun a b => b ∈ leadP ts a) x y) ∧ l.Nodup := by
      intro xs ls h
      induction h with
      | nil => intro _ l hl; cases hl
      | cons a b c d ih =>
        intro hx l hl
        rcases List.mem_cons.mp hl with e | e
        · rw [e]; exact ⟨_, hx _ List.mem_cons_self, a, b, c⟩
        · exact ih (fun z hz => hx z (List.mem_cons_of_mem _ hz)) l e
    exact key lp fun x hx => reps_mem hx
  have at2 : ∀ {a b : Option Sl} (l : List (List Nat)), l ∈ ls → ∀ H, ∃ x y, l.getD 0 [] = [x, y] ∧ Ev K B (tOp (rIxL K) (tVar 2) (tC (.int 0))) [some (.d (hD n ts)), a, some (.d (lD l)), b] H (.d (tD [x, y])) := fun l hl H => by
    obtain ⟨x, hx, h0, _, _⟩ := lok l hl
    obtain ⟨x1, x2⟩ := allP_mem.mp hx
    match x, x1, h0 with
    | [u, z], _, h0 =>
    exact ⟨u, z, by rw [List.getD_eq_getElem?_getD, h0]; rfl, ev_op (ev_var (i := 2) (s := .d (lD l)) rfl) ev_int (o_ixD (j := 0) (d := tD [u, z]) (by rw [List.getElem?_map, h0]; rfl))⟩
  refine q_asgN (K := K) (i := 1) (ds := ((ls.filter fun l => dg (l.getD 0 [])).map fun l => tD (frs l))) (E0.mono e2) (en_lc (enc := lD) (xs := ls) (keep := fun l => dg (l.getD 0 [])) (val := fun l => tD (frs l)) (G' := fun l => [some (.d (hD n ts)), none, some (.d (lD l)), none])
    (src_L (ev_cR il)) (by omega) (fun l _ => tgt_name (j := 2) (wipe1 2)) (fun l hl => ?_) (fun l hl hkeep => ⟨?_, lf_tD _⟩) (hom_tup fun d ⟨x, _, _, e⟩ => ⟨_, e⟩)) fun p3 us3 H3 hp3 e3 h3 i3 E3 => ?_
  · obtain ⟨u, z, e0, ev⟩ := at2 (a := none) (b := none) l hl H2
    refine (et_test (ev_op (ev_op ev ev_int (o_ixT (j := 0) (d := nD u) rfl)) (ev_op ev ev_int (o_ixT (j := 1) (d := nD z) rfl)) o_eqN)).to ?_
    rw [e0]
    rfl
  · obtain ⟨x, hx, h0, hm, lN⟩ := lok l hl
    have hd : l.getD 0 [] = x := by rw [List.getD_eq_getElem?_getD, h0]; rfl
    have hp' : ∀ p ∈ l, ∃ b, p = [b, b] ∧ b < n := fun p hp => by
      have hpa := dd_resp ho.ok hx ((hm p).mp hp)
      obtain ⟨q1, q2⟩ := allP_mem.mp hpa.1
      have hk' : dg p = true := by
        rw [← hpa.2, ← hd]
        exact hkeep
      match p, q1, q2, hk' with
      | [u, z], _, q2, hk' => exact ⟨u, by rw [show u = z from of_decide_eq_true hk'], q2 u (by simp)⟩
    have l8 : l.length ≤ 8 := by
      have := nd_len l ((List.range n).map fun b => [b, b]) lN fun p hp => by
        obtain ⟨b, rfl, hb⟩ := hp' p hp
        exact List.mem_map.mpr ⟨b, List.mem_range.mpr hb, rfl⟩
      simp at this
      omega
    refine (ev_tupN (ds := (frs l).map nD) (en_sset (ns := l.map fun p => p.getD 0 0) ((en_lcY (enc := tD) (xs := l) (val := fun p => nD (p.getD 0 0)) (G' := fun p => [some (.d (hD n ts)), none, some (.d (lD l)), some (.d (tD p))]) (src_L (ev_var (i := 2) rfl)) (by omega) (fun p _ => tgt_name (j := 3) (wipe1 3)) (fun p hp => ⟨?_, rfl⟩) (hom_int fun d ⟨x, _, e⟩ => ⟨_, e⟩)).to (by rw [List.map_map]; rfl)) (by rw [List.length_map]; omega)) (row_nD _)).to (e := tD (frs l)) rfl
    obtain ⟨b, rfl, hb⟩ := hp' p hp
    exact ev_op (ev_var (i := 3) (s := .d (tD [b, b])) rfl) ev_int (o_ixT (j := 0) rfl)
  · have L3 : Lo H3 p3 (((ls.filter fun l => dg (l.getD 0 [])).map frs).map tD) := ⟨us3, h3, by rw [List.map_map]; exact i3⟩
    refine s_retN (K := K) E3 ((en_cb (ea1 (ev_varL (i := 1) rfl L3 (row_tD _))) (o_srtTs ?_ ?_)).to (e := (partsN n ts).map tD) (by rw [parts_eq ho.ok lp])) fun p us H4 hp e4 h4 i4 => k p us H4 ((e2.trans e3).sm p hp) ((e2.trans e3).trans e4) h4 i4
    · have := List.length_filter_le (fun l : List (List Nat) => dg (l.getD 0 [])) ls
      rw [List.length_map]
      omega
    · intro t ht z
      obtain ⟨l, hl, rfl⟩ := List.mem_map.mp ht
      obtain ⟨x, hx, h0, hm, _⟩ := lok l (List.mem_filter.mp hl).1
      have := frs_mem.mpr ⟨x, (hm x).mpr .refl, rfl⟩
      rw [z] at this
      cases this
end
end NB
set_option maxHeartbeats 2000000
/-! every drawn house has a small group -/
namespace NB
theorem gok_of {n m : Nat} {ts C : List Tn} (ho : HOkN n ts) (hC : ∀ x, RT (stepT ts) (List.range n) x → x ∈ C) (hl : C.length ≤ m) (hm : m ≤ 120) : ∃ S, GOk n ts S ∧ S.length ≤ m := by
  have := Classical.propDecidable
  let S0 := (dd C).filter fun x => decide (RT (stepT ts) (List.range n) x)
  have nd0 : S0.Nodup := (dd_nd C).sublist List.filter_sublist
  have l0 : S0.length ≤ m := Nat.le_trans (List.length_filter_le _ _) (Nat.le_trans (dd_len C) hl)
  have mem0 : ∀ x, x ∈ S0 ↔ RT (stepT ts) (List.range n) x := fun x => by
    show x ∈ (dd C).filter _ ↔ _
    rw [List.mem_filter, dd_mem, decide_eq_true_iff]
    exact ⟨fun h => h.2, fun h => ⟨hC x h, h⟩⟩
  have hp := sortL_perm S0
  refine ⟨sortL S0, ⟨ho, ⟨ho.ok, hp.nodup_iff.mpr nd0, fun x => by rw [hp.mem_iff]; exact mem0 x⟩, by rw [hp.length_eq]; exact Nat.le_trans l0 hm, strict_of (sortL_le S0) (hp.nodup_iff.mpr nd0)⟩, by rw [hp.length_eq]; exact l0⟩
/-! ### all turns of few halls -/
def insL (x : Nat) (p : List Nat) : List (List Nat) := (List.range (p.length + 1)).map fun i => p.take i ++ x :: p.drop i
def permsOf : List Nat → List (List Nat)
  | [] => [[]]
  | x :: l => (permsOf l).flatMap (insL x)
theorem perms_mem : ∀ (l t : List Nat), t.Perm l → t ∈ permsOf l
  | [], t, h => by rw [List.perm_nil.mp h]; simp [permsOf]
  | x :: l, t, h => by
    have hx : x ∈ t := h.mem_iff.mpr List.mem_cons_self
    obtain ⟨a, b, rfl⟩ := List.append_of_mem hx
    have h2 : (a ++ b).Perm l := (List.perm_middle.symm.trans h).cons_inv
    unfold permsOf
    rw [List.mem_flatMap]
    refine ⟨a ++ b, perms_mem l _ h2, List.mem_map.mpr ⟨a.length, List.mem_range.mpr (by simp; omega), ?_⟩⟩
    simp
theorem perms_len : (List.range 6).all (fun n => decide ((permsOf (List.range n)).length ≤ 120)) = true := by decide +kernel
/-! ### the known groups -/
def bfs (ts : List Tn) : Nat → List Tn → List Tn → List Tn
  | 0, found, _ => found
  | _ + 1, found, [] => found
  | k + 1, found, x :: here =>
    let new := (ts.map fun t => thn x t).filter fun y => !found.contains y
    let new := new.foldl (fun acc y => if acc.contains y then acc else acc ++ [y]) []
    bfs ts k (found ++ new) (here ++ new)
def kgC (p : Nat × List Tn) : List Tn := bfs p.2 200 [List.range p.1] [List.range p.1]
def kgCB (p : Nat × List Tn) : Bool := (kgC p).contains (List.range p.1) && decide ((kgC p).length ≤ 60) && (kgC p).all fun x => p.2.all fun t => (kgC p).contains (thn x t)
theorem kgC_all : KG.all kgCB = true := by decide +kernel
theorem kg_reach {p : Nat × List Tn} (h : p ∈ KG) : (kgC p).length ≤ 60 ∧ ∀ x, RT (stepT p.2) (List.range p.1) x → x ∈ kgC p := by
  have q := List.all_eq_true.mp kgC_all p h
  unfold kgCB at q
  simp only [Bool.and_eq_true, decide_eq_true_eq, List.all_eq_true, List.contains_iff_mem] at q
  obtain ⟨⟨h1, h2⟩, h3⟩ := q
  exact ⟨h2, fun x hx => hx.inv (P := fun x => x ∈ kgC p) (fun a b ha ⟨t, ht, e⟩ => by rw [e]; exact h3 a ha t ht) h1⟩
theorem cnj_thn {n : Nat} {g a b : Tn} (hg : IsTn n g) (ha : IsTn n a) (hb : IsTn n b) : cnj g (thn a b) = thn (cnj g a) (cnj g b) := by
  have hbg := isTn_bck hg
  show thn (thn (bck g) (thn a b)) g = thn (thn (thn (bck g) a) g) (thn (thn (bck g) b) g)
  rw [thn_assoc ((hbg.thn ha)) hg, ← thn_assoc hg (hbg.thn hb), ← thn_assoc hg hbg, thn_bck hg, still_thn hb, ← thn_assoc (hbg.thn ha) hb, ← thn_assoc hbg ha]
theorem cnj_one {n : Nat} {g : Tn} (hg : IsTn n g) : cnj g (List.range n) = List.range n := by
  show thn (thn (bck g) (List.range n)) g = _
  rw [thn_still (isTn_bck hg), bck_thn hg]
theorem drawn_gok {n : Nat} {ts : List Tn} (h : DrawnH n ts) : ∃ S, GOk n ts S ∧ (n ≤ 5 ∨ S.length ≤ 60) := by
  have ho := h.ok
  rcases h with ⟨p, hp, g, hg, rfl, rfl⟩ | ⟨h1, h2, h3, h4, h5⟩
  · obtain ⟨k1, k2⟩ := kg_reach hp
    have o := kg_ok hp
    obtain ⟨S, h6, h7⟩ := gok_of (m := 60) ho (C := (kgC p).map (cnj g)) (fun x hx => by
      have key : IsTn p.1 x ∧ ∃ y, RT (stepT p.2) (List.range p.1) y ∧ IsTn p.1 y ∧ x = cnj g y := by
        induction hx with
        | refl => exact ⟨isTn_still, _, .refl, isTn_still, (cnj_one hg).symm⟩
        | tail _ s ih =>
          obtain ⟨_, y, h8, h9, rfl⟩ := ih
          obtain ⟨t', ht', rfl⟩ := s
          obtain ⟨t, ht, rfl⟩ := List.mem_map.mp ht'
          have tt := o.ok t ht
          exact ⟨(cnj_isTn hg h9).thn (cnj_isTn hg tt), thn y t, h8.tail ⟨t, ht, rfl⟩, h9.thn tt, (cnj_thn hg h9 tt).symm⟩
      obtain ⟨_, y, h8, _, rfl⟩ := key
      exact List.mem_map.mpr ⟨y, k2 y h8, rfl⟩) (by simpa using k1) (by decide)
    exact ⟨S, h6, .inr h7⟩
  · have q := List.all_eq_true.mp perms_len n (List.mem_range.mpr (by omega))
    obtain ⟨S, h6, h7⟩ := gok_of (m := 120) ho (C := permsOf (List.range n)) (fun x hx => perms_mem _ _ (rt_isTn ho.ok hx isTn_still)) (of_decide_eq_true q) (by decide)
    exact ⟨S, h6, .inl h2⟩
end NB
set_option maxHeartbeats 2000000
/-! the likes: few, and the law's due -/
namespace NB
/-- what the likes are -/
theorem likes_mem {n : Nat} {ts S : List Tn} {t : Tn} (G : GOk n ts S) (ht : IsTn n t) (x : Tn) : x ∈ likesN S ts t ↔ ∃ g ∈ S, cnj g t = x := by
  unfold likesN
  rw [(sortL_perm _).mem_iff]
  show x ∈ cls (orbC S t) (leadC ts) t ↔ _
  unfold cls
  rw [List.mem_filter, rRT_iff]
  have e : (fun a b => b ∈ leadC ts a) = stepA ts cnj := by
    funext a b
    apply propext
    rw [List.mem_map]
    exact ⟨fun ⟨t, h, e⟩ => ⟨t, h, e.symm⟩, fun ⟨t, h, e⟩ => ⟨t, h, e.symm⟩⟩
  rw [e, reach_iff G.g (act_cnj n) ht]
  refine ⟨fun h => h.2, fun h => ⟨?_, h⟩⟩
  obtain ⟨g, hg, rfl⟩ := h
  exact dd_mem.mpr (List.mem_map.mpr ⟨g, hg, rfl⟩)
theorem likes_strict {n : Nat} {ts S : List Tn} {t : Tn} : (likesN S ts t).Pairwise fun x y => lexN x y = true := by
  refine strict_of (sortL_le _) ((sortL_perm _).nodup_iff.mpr ?_)
  exact (dd_nd _).sublist List.filter_sublist
end NB
set_option maxHeartbeats 1000000
/-! few likes -/
namespace NB
theorem sumN_ge {α : Type} {f : α → Nat} : ∀ {l : List α}, (∀ y ∈ l, 2 ≤ f y) → 2 * l.length ≤ sumN (l.map f)
  | [], _ => by simp
  | a :: l, h => by
    have h1 := h a List.mem_cons_self
    have h2 := sumN_ge (l := l) fun y hy => h y (List.mem_cons_of_mem _ hy)
    show 2 * (l.length + 1) ≤ f a + sumN (l.map f)
    omega
theorem orb_few {n : Nat} {ts S : List Tn} {t : Tn} (G : GOk n ts S) (ht : IsTn n t) (h5 : n ≤ 5 ∨ S.length ≤ 60) : (orbC S t).length ≤ 60 := by
  have hle : (orbC S t).length ≤ S.length := by
    have := dd_len (S.map fun g => cnj g t)
    rwa [List.length_map] at this
  by_cases hs : S.length ≤ 60
  · omega
  have n5 : n ≤ 5 := h5.resolve_right hs
  have p120 : (permsOf (List.range n)).length ≤ 120 := of_decide_eq_true (List.all_eq_true.mp perms_len n (List.mem_range.mpr (by omega)))
  have tS : t ∈ S := by
    by_cases h : t ∈ S
    · exact h
    exfalso
    have nd2 : (S ++ S.map fun h => thn h t).Nodup := by
      refine List.nodup_append.mpr ⟨G.g.nd, nd_map G.g.nd fun x hx y hy e => thn_cancel_r ht (G.g.isT hx) (G.g.isT hy) e, fun a ha b hb e => h ?_⟩
      obtain ⟨c, hc, rfl⟩ := List.mem_map.mp hb
      have h1 := G.g.mul (G.g.inv hc) ha
      rw [e, ← thn_assoc (isTn_bck (G.g.isT hc)) (G.g.isT hc), bck_thn (G.g.isT hc), still_thn ht] at h1
      exact h1
    have := nd_len _ (permsOf (List.range n)) nd2 fun x hx => by
      rcases List.mem_append.mp hx with q | q
      · exact perms_mem _ _ (G.g.isT q)
      · obtain ⟨c, hc, rfl⟩ := List.mem_map.mp q
        exact perms_mem _ _ ((G.g.isT hc).thn ht)
    rw [List.length_append, List.length_map] at this
    omega
  by_cases ti : t = List.range n
  · have : (orbC S t).length ≤ [t].length := nd_len _ _ (dd_nd _) fun x hx => by
      obtain ⟨g, hg, rfl⟩ := List.mem_map.mp (dd_mem.mp hx)
      rw [ti, cnj_one (G.g.isT hg)]
      simp
    simp at this
    omega
  · have sum := part_sum cnj t S (orbC S t) (dd_nd _) fun h hh => dd_mem.mpr (List.mem_map.mpr ⟨h, hh, rfl⟩)
    have ge := sumN_ge (f := fun y => (S.filter fun h => decide (cnj h t = y)).length) (l := orbC S t) fun y hy => by
      obtain ⟨g, hg, rfl⟩ := List.mem_map.mp (dd_mem.mp hy)
      have gt := G.g.isT hg
      have e : cnj (thn t g) t = cnj g t := by
        rw [(act_cnj n).mul t g t ht gt ht]
        congr 1
        show thn (thn (bck t) t) t = t
        rw [bck_thn ht, still_thn ht]
      have ne : g ≠ thn t g := fun z => ti (thn_cancel_r gt ht isTn_still (by rw [still_thn gt]; exact z.symm))
      have := nd_len [g, thn t g] (S.filter fun h => decide (cnj h t = cnj g t)) (by simp [ne]) fun x hx => by
        rcases List.mem_cons.mp hx with q | q
        · rw [q]; exact List.mem_filter.mpr ⟨hg, decide_eq_true rfl⟩
        · rw [List.mem_singleton.mp q]; exact List.mem_filter.mpr ⟨G.g.mul tS hg, decide_eq_true e⟩
      simpa using this
    rw [sum] at ge
    have := G.sz
    omega
end NB
set_option maxHeartbeats 1000000
/-! the sums -/
namespace NB
theorem burn1 {n : Nat} {ts S : List Tn} (G : GOk n ts S) : sumN (S.map fun g => (fixT g).length) = S.length * (partsN n ts).length := by
  have hr : ∀ x y, x < n → (rRT (leadH ts) x y = true ↔ ∃ g ∈ S, g.getD x 0 = y) := fun x y hx => by
    rw [rRT_iff, ← reach_iff G.g (act_hall n) hx]
    have e : (fun a b => b ∈ leadH ts a) = stepA ts fun g x => g.getD x 0 := by
      funext a b
      apply propext
      unfold leadH
      rw [List.mem_map]
      exact ⟨fun ⟨t, h, e⟩ => ⟨t, h, e.symm⟩, fun ⟨t, h, e⟩ => ⟨t, h, e.symm⟩⟩
    rw [e]
  have q := orbit_count G.g (act_hall n) hr (Y := List.range n) List.nodup_range fun x => List.mem_range
  have e1 : (partsN n ts).length = (reps (rRT (leadH ts)) (List.range n)).length := by
    unfold partsN
    rw [(sortL_perm _).length_eq, List.length_map]
  rw [e1, ← q]
  refine sumN_congr fun g hg => ?_
  unfold fixT
  rw [(G.g.isT hg).len]
theorem fix2 {n : Nat} {g : Tn} (hg : IsTn n g) : ((allP n).filter fun p => decide (ap2 g p = p)).length = (fixT g).length * (fixT g).length := by
  have hf : (fixT g) = (List.range n).filter fun x => decide (g.getD x 0 = x) := by unfold fixT; rw [hg.len]
  rw [hf]
  unfold allP
  rw [List.filter_flatMap]
  have row : ∀ a, (((List.range n).map fun b => [a, b]).filter fun p => decide (ap2 g p = p)).length = if g.getD a 0 = a then ((List.range n).filter fun x => decide (g.getD x 0 = x)).length else 0 := fun a => by
    rw [List.filter_map, List.length_map]
    by_cases h : g.getD a 0 = a
    · rw [if_pos h]
      congr 1
      refine List.filter_congr fun b _ => ?_
      show decide ([g.getD a 0, g.getD b 0] = [a, b]) = _
      rw [h]
      simp
    · rw [if_neg h, List.length_eq_zero_iff, List.filter_eq_nil_iff]
      intro b _ z
      have z : decide ([g.getD a 0, g.getD b 0] = [a, b]) = true := z
      exact h (List.cons.inj (of_decide_eq_true z)).1
  have key : ∀ l : List Nat, (l.flatMap fun a => ((List.range n).map fun b => [a, b]).filter fun p => decide (ap2 g p = p)).length = (l.filter fun x => decide (g.getD x 0 = x)).length * ((List.range n).filter fun x => decide (g.getD x 0 = x)).length := by
    intro l
    induction l with
    | nil => simp
    | cons a l ih =>
      rw [List.flatMap_cons, List.length_append, ih, row]
      by_cases h : g.getD a 0 = a
      · rw [if_pos h, List.filter_cons_of_pos (by simpa using h), List.length_cons, Nat.succ_mul]
        omega
      · rw [if_neg h, List.filter_cons_of_neg (by simpa using h)]
        omega
  exact key _
theorem burn2 {n : Nat} {ts S : List Tn} (G : GOk n ts S) : sumN (S.map fun g => (fixT g).length * (fixT g).length) = S.length * rankN n ts := by
  have hr : ∀ x y, (x.length = 2 ∧ ∀ z ∈ x, z < n) → (rRT (leadP ts) x y = true ↔ ∃ g ∈ S, ap2 g x = y) := fun x y hx => by
    rw [rRT_iff, ← reach_iff G.g (act_pair n) hx]
    have e : (fun a b => b ∈ leadP ts a) = stepA ts ap2 := by
      funext a b
      apply propext
      unfold leadP
      rw [List.mem_map]
      exact ⟨fun ⟨t, h, e⟩ => ⟨t, h, e.symm⟩, fun ⟨t, h, e⟩ => ⟨t, h, e.symm⟩⟩
    rw [e]
  have q := orbit_count G.g (act_pair n) hr (Y := allP n) (allP_nd n) fun x => allP_mem
  unfold rankN
  rw [← q]
  exact sumN_congr fun g hg => (fix2 (G.g.isT hg)).symm
end NB
set_option maxHeartbeats 2000000
/-! the law: the sorted members, the due -/
namespace NB
open PySem PySem.Spec PyProof.Rows L2
section
variable {P : Program} {w : World} {K : PySem.W.Frag} {mg : Str → Option Value} {base : Heap} {B : Tbs} {Γ : Ga} {σ : St} {H H' : Hp} {te tb : TE} {ta : TA} {D : Ends} {tz : TS} {ds : List PyData}
theorem fts_perm {as as' : List Addr} (h : as'.Perm as) : ∀ {ks : List (List Nat)}, FTs H as ks → ∃ ks' : List (List Nat), ks'.Perm ks ∧ FTs H as' ks' := by
  induction h with
  | nil => intro ks h; exact ⟨ks, List.Perm.refl _, h⟩
  | cons x p ih =>
    intro ks h
    cases h with
    | cons a b =>
      obtain ⟨ks', h1, h2⟩ := ih b
      exact ⟨_ :: ks', h1.cons _, .cons a h2⟩
  | swap x y l =>
    intro ks h
    cases h with
    | cons a b =>
      cases b with
      | cons c d => exact ⟨_, List.Perm.swap _ _ _, .cons c (.cons a d)⟩
  | trans p q ih1 ih2 =>
    intro ks h
    obtain ⟨k1, h1, h2⟩ := ih2 h
    obtain ⟨k2, h3, h4⟩ := ih1 h2
    exact ⟨k2, h3.trans h1, h4⟩
def unref : V → Addr
  | .ref a => a
  | _ => 0
theorem refs_perm {as : List Addr} {ys : List V} (h : ys.Perm (as.map V.ref)) : ∃ as' : List Addr, ys = as'.map V.ref ∧ as'.Perm as := by
  refine ⟨ys.map unref, ?_, ?_⟩
  · rw [List.map_map]
    conv => lhs; rw [← List.map_id ys]
    refine List.map_congr_left fun y hy => ?_
    obtain ⟨a, _, rfl⟩ := List.mem_map.mp (h.mem_iff.mp hy)
    rfl
  · have q := h.map unref
    rw [List.map_map] at q
    have e : as.map (unref ∘ V.ref) = as := by
      conv => rhs; rw [← List.map_id as]
      exact List.map_congr_left fun a _ => rfl
    rwa [e] at q
theorem q_asgW {i n : Nat} {ts S : List Tn} (E : Env B σ H Γ) (ha : EvA K B ta Γ H [.d (.tuple (ts.map tD)), .d (nD n)]) (G : GOk n ts S)
    (k : ∀ p as H1, H p = none → Ex K B H H1 → H1 p = some (.lst (as.map V.ref)) → FTs H1 as S → Env B (σ.set i (some (.ref p))) H1 (Γ.set i (some (.r p))) → tz D (σ.set i (some (.ref p))) H1) :
    tSeq (tAsg (tCB (rSrtT K P w) (tCons (tCall (spMem K B) [] E0 ta) tNil)) (gName i)) tz D σ H :=
  ha σ H E (Ex.refl K H) _ fun vs H1 e1 v1 => by
    rw [List.append_nil]
    refine ⟨e1.tb E.tb, n, ts, S, (show SlsOk H1 ([.tuple (ts.map tD), nD n].map .d) vs from v1).data, G, fun p as ks H2 hp e2 h2 f2 hpm => ?_⟩
    have ksz : ks.length ≤ 120 := by rw [hpm.length_eq]; exact G.sz
    have il := f2.is
    refine ⟨p, rfl, .inl ⟨as.map V.ref, .inl (.inl h2), by rw [il.len, List.length_map]; omega, tups_of (fun t ht => G.ne (hpm.mem_iff.mp ht)) il, fun ys p' hys hs hn => ?_⟩⟩
    obtain ⟨as', rfl, hpa⟩ := refs_perm hys
    obtain ⟨ks', hk1, hk2⟩ := fts_perm hpa f2
    have es : ks' = S := by
      have q1 := pw_tups hk2.is hs
      have q2 := hk1.trans hpm
      exact lexN_uniq (strict_of q1 (q2.nodup_iff.mpr G.g.nd)) G.so fun x => q2.mem_iff
    subst es
    have eN : Ex K B H2 (upd H2 p' (.lst (as'.map V.ref))) := Ex.new hn
    exact k p' as' _ ((e1.trans e2).sm _ hn) ((e1.trans e2).trans eN) upd_same (hk2.keep eN.fk) ((E.mono ((e1.trans e2).trans eN)).set (s := .r p') rfl)
/-- [e for x in a list of known objects] -/
theorem en_lcR {i j : Nat} {p : Addr} {as : List Addr} {val : Addr → PyData} {G' : Addr → Ga} (hi : Γ[i]? = some (some (.r p))) (hp : H p = some (.lst (as.map V.ref))) (hz : as.length < 999)
    (hg : ∀ a, G' a = (wipeG Γ [j]).set j (some (.r a))) (he : ∀ a ∈ as, Ev K B te (G' a) H (.d (val a)) ∧ lf (val a) = true) (hom : Hom fun d => ∃ a ∈ as, d = val a) : EvN K B (tLc (iList K (tVar i)) (gName j) tYes te [j]) Γ H (as.map val) := fun σ H1 E e Q q => by
  have hp1 := e.lst hp (norow_as as)
  refine ⟨_, E.slot hi, p, rfl, ⟨_, .inl (.inl hp1)⟩, fun Dd hD => ?_⟩
  have W : Walk (Itl K p) as.length (fun H => SqL K H p (as.map V.ref)) (YAt (as.map V.ref)) := by
    have := walk_list (K := K) (a := p) (xs := as.map V.ref)
    rwa [List.length_map] at this
  have sub : ∀ i, ∀ x ∈ (as.take i).map val, ∃ a ∈ as, x = val a := fun i x hx => by
    obtain ⟨a, ha, e⟩ := List.mem_map.mp hx
    exact ⟨a, List.mem_of_mem_take ha, e.symm⟩
  refine lc_it W (fun i H' => Cw K B H1 Dd ((as.take i).map val) H') ⟨hD, Ex.new (K := K) (B := B) (o := .lst []) hD, [], upd_same, .nil⟩ (fun i H' _ c => .inl (.inl (c.ex.lst hp1 (norow_as as)))) (fun ii x H' H'' hii c y => ?_) fun H' c => ?_
  · obtain ⟨rfl, hx⟩ := y
    rw [List.getElem?_map, List.getElem?_eq_getElem hii] at hx
    obtain rfl : V.ref as[ii] = x := Option.some.inj hx
    have hm : as[ii] ∈ as := List.getElem_mem hii
    refine ⟨wipe1 j σ _, ?_⟩
    simp only [tYes, ↓reduceIte]
    have E2 : Env B ((L2.wipe σ [j]).set j (some (.ref as[ii]))) H'' (G' as[ii]) := by
      rw [hg]
      exact ((E.mono c.ex).wipe [j]).set (s := .r as[ii]) rfl
    obtain ⟨ev, lv⟩ := he _ hm
    refine ev _ H'' E2 (e.trans c.ex) _ fun y7 H7 e7 v7 => ?_
    obtain ⟨us, h1, h2⟩ := c.at_
    have nr := norow_of h2 (hom_row hom (sub ii))
    have h17 := e7.lst h1 nr
    have np : ∀ xs, ¬ Rd H7 Dd (.tup xs) := plain_nt (by rw [h17]; trivial)
    have les : lfAll ((as.take ii).map val) = true := lfAll_of fun d hd => by
      obtain ⟨a, ha, rfl⟩ := sub ii d hd
      exact (he a ha).2
    refine ⟨us, h17, ltline (by rw [h2.len, List.length_map, List.length_take]; omega), c.nw, (c.ex.trans e7).mut c.nw (by rw [h17]; trivial), us ++ [y7], upd_same, ?_⟩
    have tk : (as.take (ii + 1)).map val = (as.take ii).map val ++ [val as[ii]] := by rw [List.take_add_one, List.getElem?_eq_getElem hii, List.map_append]; rfl
    rw [tk]
    exact ((h2.mono e7).upd les np).app (.one (Is.upd (show Is H7 y7 (val as[ii]) from v7) lv np))
  · rw [List.take_length] at c
    obtain ⟨us, h1, h2⟩ := c.at_
    exact q Dd us H' hD c.ex h1 h2
end
end NB
set_option maxHeartbeats 2000000
/-! the sorted set of turns -/
namespace NB
open PySem PySem.Spec PyProof.Rows L2
abbrev zN (t : List Nat) : List Int := t.map fun n : Nat => (n : Int)
/-- the kit's code tells the order of tuples of one length -/
theorem code_lex {Bn : Nat} : ∀ {x y : List Nat}, x.length = y.length → (∀ a ∈ x, a < Bn) → (∀ a ∈ y, a < Bn) → lexN x y = true → TS.code (Bn : Int) (zN x) < TS.code (Bn : Int) (zN y)
  | [], [], _, _, _, h => by simp [lexN] at h
  | [], _ :: _, hl, _, _, _ => by simp at hl
  | _ :: _, [], hl, _, _, _ => by simp at hl
  | a :: x, b :: y, hl, hx, hy, h => by
    have hl2 : x.length = y.length := by simpa using hl
    have bd : ∀ {z : List Nat}, (∀ a ∈ z, a < Bn) → TS.Bd (Bn : Int) (zN z) := fun hz m hm => by
      obtain ⟨n, hn, rfl⟩ := List.mem_map.mp hm
      have := hz n hn
      exact ⟨by omega, by omega⟩
    have hx2 : ∀ c ∈ x, c < Bn := fun c hc => hx c (List.mem_cons_of_mem _ hc)
    have hy2 : ∀ c ∈ y, c < Bn := fun c hc => hy c (List.mem_cons_of_mem _ hc)
    have h : (if a = b then lexN x y else decide (a < b)) = true := h
    by_cases e : a = b
    · subst e
      rw [if_pos rfl] at h
      exact (TS.code_same (by simpa using hl2)).mpr (code_lex hl2 hx2 hy2 h)
    · rw [if_neg e] at h
      have := of_decide_eq_true h
      show TS.code (Bn : Int) ((a : Int) :: zN x) < TS.code (Bn : Int) ((b : Int) :: zN y)
      have ab : (a : Int) < (b : Int) := by omega
      exact TS.code_lt (by simpa using hl2) (bd hx2) (bd hy2) ab
section
variable {P : Program} {w : World} {K : PySem.W.Frag} {B : Tbs} {Γ : Ga} {H H' : Hp} {te : TE}
theorem zN_inj {x y : List Nat} (h : zN x = zN y) : x = y := inj_map (f := fun n : Nat => (n : Int)) (fun a b (e : (a : Int) = (b : Int)) => by omega) h
/-- a list of turns as addresses with what they hold -/
theorem pairs_of {us : List V} : ∀ {ks : List (List Nat)}, IsAll H us (ks.map tD) → ∃ ps : List (Addr × List Int), us = ps.map (fun p => V.ref p.1) ∧ ps.map (·.2) = ks.map zN ∧ ∀ p ∈ ps, Rd H p.1 (.tup (p.2.map V.int)) := by
  intro ks
  induction ks generalizing us with
  | nil => intro h; cases h; exact ⟨[], rfl, rfl, fun p hp => by cases hp⟩
  | cons k ks ih =>
    intro h
    cases h with
    | cons a b =>
      obtain ⟨ps, h1, h2, h3⟩ := ih b
      obtain ⟨ad, rfl, r⟩ := is_tD a
      rw [nats_int] at r
      refine ⟨(ad, zN k) :: ps, by rw [h1]; rfl, by rw [List.map_cons, h2]; rfl, fun p hp => ?_⟩
      rcases List.mem_cons.mp hp with e | e
      · rw [e]; exact r
      · exact h3 p e
theorem of_pairs {ks : List (List Nat)} : ∀ {ps : List (Addr × List Int)}, (∀ p ∈ ps, ∃ k ∈ ks, p.2 = zN k) → (∀ p ∈ ps, Rd H p.1 (.tup (p.2.map V.int))) → ∃ es : List (List Nat), ps.map (·.2) = es.map zN ∧ IsAll H (ps.map fun p => V.ref p.1) (es.map tD) := by
  intro ps
  induction ps with
  | nil => intro _ _; exact ⟨[], rfl, .nil⟩
  | cons p ps ih =>
    intro h1 h2
    obtain ⟨es, e1, e2⟩ := ih (fun q hq => h1 q (List.mem_cons_of_mem _ hq)) fun q hq => h2 q (List.mem_cons_of_mem _ hq)
    obtain ⟨k, _, hk⟩ := h1 p List.mem_cons_self
    refine ⟨k :: es, by rw [List.map_cons, List.map_cons, e1, hk], .cons (tD_is ?_) e2⟩
    have q := h2 p List.mem_cons_self
    rw [hk] at q
    rw [nats_int]
    exact q
theorem en_due {ks T : List (List Nat)} {d Bn : Nat} (h : EvN K B te Γ H (ks.map tD)) (few : ∀ L : List (List Nat), L.Nodup → (∀ x ∈ L, x ∈ ks) → L.length ≤ 61) (len : ∀ t ∈ ks, t.length = d) (d1 : 1 ≤ d) (bd : ∀ t ∈ ks, ∀ a ∈ t, a < Bn) (hT : T.Pairwise fun x y => lexN x y = true) (mem : ∀ x, x ∈ T ↔ x ∈ ks) :
    EvN K B (tCB (rSortedT K P w) (tCons (tCB (rSetT K P w) (tCons te tNil)) tNil)) Γ H (T.map tD) := fun σ H1 E e Q q =>
  h σ H1 E e _ fun p us H2 hp e2 h2 i2 => by
    obtain ⟨ps, rfl, hps, hrd⟩ := pairs_of i2
    have inK : ∀ p ∈ ps, ∃ k ∈ ks, p.2 = zN k := fun p hp => by
      have : p.2 ∈ ks.map zN := by rw [← hps]; exact List.mem_map.mpr ⟨p, hp, rfl⟩
      obtain ⟨k, hk, e⟩ := List.mem_map.mp this
      exact ⟨k, hk, e.symm⟩
    have nodZ : ∀ {es : List (List Nat)}, (es.map zN).Nodup → es.Nodup := fun {es} hn => by
      induction es with
      | nil => exact List.nodup_nil
      | cons a l ih =>
        obtain ⟨h1, h2⟩ := List.nodup_cons.mp hn
        exact List.nodup_cons.mpr ⟨fun z => h1 (List.mem_map.mpr ⟨a, z, rfl⟩), ih h2⟩
    have lstR : ∀ {L : List (Addr × List Int)}, (∀ p ∈ L, p ∈ ps) → ∀ {H3 : Hp}, Ex K B H2 H3 → ∃ es : List (List Nat), L.map (·.2) = es.map zN ∧ IsAll H3 (L.map fun p => V.ref p.1) (es.map tD) := fun {L} hL {H3} e3 =>
      of_pairs (fun p hp => inK p (hL p hp)) fun p hp => e3.rd (hrd p (hL p hp))
    have esIn : ∀ {L : List (Addr × List Int)} {es : List (List Nat)}, (∀ p ∈ L, p ∈ ps) → L.map (·.2) = es.map zN → ∀ x ∈ es, x ∈ ks := fun {L es} hL he x hx => by
      have : zN x ∈ L.map (·.2) := by rw [he]; exact List.mem_map.mpr ⟨x, hx, rfl⟩
      obtain ⟨p, hp, e⟩ := List.mem_map.mp this
      obtain ⟨k, hk, e2⟩ := inK p (hL p hp)
      rw [e] at e2
      rw [zN_inj e2]
      exact hk
    refine ⟨p, ps, rfl, .inl (.inl h2), fun p hp => .inl (hrd p hp), fun L hL hN => ?_, fun a L ha hL hcov => ?_⟩
    · obtain ⟨es, h3, _⟩ := lstR hL (Ex.refl K H2)
      have := few es (nodZ (by rw [← h3]; exact hN)) (esIn hL h3)
      have hlen : L.length = es.length := by simpa using congrArg List.length h3
      omega
    · have e3 : Ex K B H2 (upd H2 a (SetTO P w a L)) := Ex.new ha
      refine ⟨a, L, d, (Bn : Int), rfl, upd_same, fun p hp => .inl (e3.rd (hrd p (hL p hp))), d1, fun p hp => ?_, fun L' r hpm hN hl hs hr => ?_⟩
      · obtain ⟨k, hk, e⟩ := inK p (hL p hp)
        rw [e]
        refine ⟨by simpa using len k hk, fun m hm => ?_⟩
        obtain ⟨c, hc, rfl⟩ := List.mem_map.mp hm
        have := bd k hk c hc
        exact ⟨by omega, by omega⟩
      · have hL' : ∀ p ∈ L', p ∈ ps := fun p hp => hL p (hpm.mem_iff.mp hp)
        have e4 : Ex K B (upd H2 a (SetTO P w a L)) (upd (upd H2 a (SetTO P w a L)) r (.lst (L'.map fun q => V.ref q.1))) := Ex.new hr
        obtain ⟨es, h5, h6⟩ := lstR hL' (e3.trans e4)
        have ein := esIn hL' h5
        have esN : es.Nodup := nodZ (by rw [← h5]; exact hN)
        have cpw : es.Pairwise fun x y => TS.code (Bn : Int) (zN x) ≤ TS.code (Bn : Int) (zN y) := by
          have q1 : (L'.map (·.2)).Pairwise fun x y => TS.code (Bn : Int) x ≤ TS.code (Bn : Int) y := by
            rw [List.pairwise_map]
            exact hs
          rw [h5, List.pairwise_map] at q1
          exact q1
        have lpw : es.Pairwise fun x y => lexN y x = false := cpw.imp_of_mem fun {x y} hx hy hc => by
          cases e : lexN y x with
          | false => rfl
          | true =>
            have := code_lex (Bn := Bn) ((len y (ein y hy)).trans (len x (ein x hx)).symm) (bd y (ein y hy)) (bd x (ein x hx)) e
            omega
        have es_eq : es = T := lexN_uniq (strict_of lpw esN) hT fun x => by
          rw [mem]
          refine ⟨ein x, fun hx => ?_⟩
          have : zN x ∈ ps.map (·.2) := by rw [hps]; exact List.mem_map.mpr ⟨x, hx, rfl⟩
          obtain ⟨p, hp, e⟩ := List.mem_map.mp this
          have q2 := hcov p hp
          rw [e] at q2
          obtain ⟨q3, q4, q5⟩ := List.mem_map.mp q2
          have : zN x ∈ L'.map (·.2) := List.mem_map.mpr ⟨q3, hpm.mem_iff.mpr q4, q5⟩
          rw [h5] at this
          obtain ⟨y, hy, ey⟩ := List.mem_map.mp this
          rw [← zN_inj ey]
          exact hy
        subst es_eq
        exact q r _ _ ((e2.trans e3).sm _ hr) ((e2.trans e3).trans e4) upd_same h6
end
end NB
set_option maxHeartbeats 4000000
/-! law says True -/
namespace NB
open PySem PySem.Spec PyProof.Rows L2
section
variable {P : Program} {w : World} {K : PySem.W.Frag} {mg : Str → Option Value} {base : Heap} {B : Tbs} {Γ : Ga} {σ : St} {H H' : Hp} {te ta tb : TE} {D : Ends} {tz : TS} {ds : List PyData}
/-- the row is laid -/
theorem q_row {i : Nat} {s : Addr} {ns : List Int} {a b c : Int} (E : Env B σ H Γ) (h0 : σ[0]? = some (some (.ref s))) (hs : SqL K H s (ns.map V.int)) (ha : 0 ≤ a)
    (k : ∀ p H1, Ex K B H H1 → RowAt K H1 p s ns → Env B (σ.set i (some (.ref p))) H1 (Γ.set i (some (.r p))) → tz D (σ.set i (some (.ref p))) H1) :
    tSeq (tAsg (tLst (tCons (tVar 0) (tCons (tC (.int a)) (tCons (tC (.int b)) (tCons (tC (.int c)) tNil))))) (gName i)) tz D σ H := by
  refine ⟨_, h0, lenline (by simp), fun p hp => ?_⟩
  have e : Ex K B H (upd H p (.lst [.ref s, .int a, .int b, .int c])) := Ex.new hp
  exact k p _ e ⟨⟨a, b, c, upd_same, ha⟩, e.seq hs (norow_ints ns)⟩ ((E.mono e).set (s := .r p) rfl)
theorem q_asgH {i j : Nat} {a s : Addr} {ns : List Int} (E : Env B σ H Γ) (hj : Γ[j]? = some (some (.r a))) (hR : RowAt K H a s ns) (k : ∀ n ts v H1, DrawnH n ts → Ex K B H H1 → Env B (σ.set i (some v)) H1 (Γ.set i (some (.d (hD n ts)))) → tz D (σ.set i (some v)) H1) :
    tSeq (tAsg (tCall (spHouse K B) [] E0 (tCons (tVar j) tNil)) (gName i)) tz D σ H :=
  ⟨_, E.slot hj, E.tb, a, s, ns, rfl, hR, fun n ts v H1 hd e i1 => k n ts v H1 hd e ((E.mono e).set (s := .d (hD n ts)) i1)⟩
theorem ad_int (m : Nat) (i : Int) : AD m (.int i) := by cases m <;> exact .inl ⟨i, rfl⟩
theorem ad_bl (m : Nat) (b : Bool) : AD m (.bool b) := by
  cases m with
  | zero => exact .inr ⟨b, rfl⟩
  | succ m => exact .inr (.inl ⟨b, rfl⟩)
theorem ad_tup {m : Nat} {ds : List PyData} (hz : ds.length ≤ 900) (h : ∀ x ∈ ds, AD m x) : AD (m + 1) (.tuple ds) := .inr (.inr ⟨ds, .inl rfl, hz, h⟩)
theorem ad_lst {m : Nat} {ds : List PyData} (hz : ds.length ≤ 900) (h : ∀ x ∈ ds, AD m x) : AD (m + 1) (.list ds) := .inr (.inr ⟨ds, .inr rfl, hz, h⟩)
theorem ad_tD (m : Nat) {t : List Nat} (hz : t.length ≤ 900) : AD (m + 1) (tD t) := ad_tup (by simpa using hz) fun x hx => by
  obtain ⟨n, _, rfl⟩ := List.mem_map.mp hx
  exact ad_int m _
theorem ad_tDs (m : Nat) {ts : List (List Nat)} (hz : ts.length ≤ 900) (h : ∀ t ∈ ts, t.length ≤ 900) : AD (m + 2) (.tuple (ts.map tD)) := ad_tup (by simpa using hz) fun x hx => by
  obtain ⟨t, ht, rfl⟩ := List.mem_map.mp hx
  exact ad_tD m (h t ht)
theorem et_alike {d : PyData} (ha : Ev K B ta Γ H (.d d)) (hb : Ev K B tb Γ H (.d d)) (h : AD 4 d) : EvT K B (tNot (tB (tCall (spD K B (CAl 4)) [] E0 (tCons ta (tCons tb tNil))))) Γ H false :=
  et_not (a := true) (et_B (ev_call (ds := [d, d]) (ea2 ha hb) ⟨d, rfl, rfl, h⟩))
theorem all2 {p : PyData → Prop} {a b : PyData} (ha : p a) (hb : p b) : ∀ x ∈ [a, b], p x := fun x hx => by
  rcases List.mem_cons.mp hx with e | e
  · rw [e]; exact ha
  · rw [List.mem_singleton.mp e]; exact hb
theorem all3 {p : PyData → Prop} {a b c : PyData} (ha : p a) (hb : p b) (hc : p c) : ∀ x ∈ [a, b, c], p x := fun x hx => by
  rcases List.mem_cons.mp hx with e | e
  · rw [e]; exact ha
  · exact all2 hb hc x e
end
end NB
set_option maxHeartbeats 8000000
/-! law says True -/
namespace NB
open PySem PySem.Spec PyProof.Rows L2
section
variable {P : Program} {w : World} {K : PySem.W.Frag} {mg : Str → Option Value} {base : Heap} {B : Tbs} {Γ : Ga} {σ : St} {H H' : Hp} {te ta tb : TE} {D : Ends} {tz : TS} {ds : List PyData} {R : PyData → Prop}
def spLaw (K : PySem.W.Frag) (B : Tbs) : Sp := fun vs H Q _ => TbOk B H ∧ ∃ (s : Addr) (ns : List Int), vs = [.ref s] ∧ SqL K H s (ns.map V.int) ∧ ∀ H', Q (.bl true) H'
theorem q_parPD {i j : Nat} {s : Sl} (E : Env B σ H Γ) (ha : EvP K B ta Γ H R) (hb : ∀ H1, Ex K B H H1 → Ev K B tb Γ H1 s)
    (k : ∀ d v u H', R d → Ex K B H H' → Env B ((σ.set i (some v)).set j (some u)) H' ((Γ.set i (some (.d d))).set j (some s)) → tz D ((σ.set i (some v)).set j (some u)) H') : tSeq (tPar i j (tCons ta (tCons tb tNil))) tz D σ H :=
  ha σ H E (Ex.refl K H) _ fun d v H1 rd e1 h1 => hb H1 e1 σ H1 (E.mono e1) (Ex.refl K H1) _ fun u H2 e2 h2 =>
    ⟨_, _, rfl, k d v u H2 rd (e1.trans e2) ((((E.mono e1).mono e2).set (s := .d d) (Is.mono e2 h1)).set (s := s) h2)⟩
theorem len_le {n : Nat} {ts S : List Tn} (G : GOk n ts S) : ∀ t ∈ S, t.length ≤ 900 := fun t ht => by
  rw [(G.g.isT ht).len]
  have := G.ho.n8
  omega
/-- the pairs' number -/
theorem ev_rankL {n : Nat} {ts : List Tn} (ha : Ev K B te Γ H (.d (hD n ts))) (ho : HOkN n ts) : Ev K B (tCB (rLn K) (tCons (tCall (spPairs K B) [] E0 (tCons te tNil)) tNil)) Γ H (.d (nD (rankN n ts))) := fun σ H1 E e Q q =>
  ha σ H1 E e _ fun v H2 e2 v2 => ⟨e2.tb E.tb, n, ts, .one v2, ho, fun p us ls H3 hp e3 h3 i3 lp => by
    refine o_lenD (K := K) (B := B) (ds := ls.map lD) [.ref p] H3 (e3.tb (e2.tb E.tb)) (Ex.refl K H3) (.cons (.lst h3 (norow_of i3 (row_lD _)) i3) .nil) _ fun v H4 e4 v4 => q v H4 ((e2.trans e3).trans e4) ?_
    rw [List.length_map, lp.len] at v4
    exact v4⟩
theorem o_mulN {H : Hp} {i j : Nat} (h : i < 1000000) : Op2 K B (rI CMul fun i j => .int (i * j)) (.d (nD i)) (.d (nD j)) H (.d (nD (i * j))) := fun x y H1 t e hx hy Q q => by
  refine o_I (g := fun i j => i * j) (i := (i : Int)) (j := (j : Int)) (show CMul i j from .inl ⟨by omega, by omega⟩) x y H1 t e hx hy Q fun v H2 e2 v2 => q v H2 e2 ?_
  rw [show ((i : Int) * (j : Int)) = ((i * j : Nat) : Int) from (Int.natCast_mul i j).symm] at v2
  exact v2
theorem ev_sumN {ns : List Nat} (h : EvN K B te Γ H (ns.map nD)) : Ev K B (tCB (rSum K) (tCons te tNil)) Γ H (.d (nD (sumN ns))) := fun σ H1 E e Q q =>
  h σ H1 E e _ fun p us H2 hp e2 h2 i2 => by
    have hu := isAll_nat_eq i2
    rw [hu, nats_int] at h2
    refine ⟨p, _, rfl, .inl (.inl h2), ?_⟩
    rw [sum_int]
    exact q _ H2 e2 (.int _)
theorem ev_sumL {ns : List Nat} (h : Ev K B te Γ H (.d (.list (ns.map nD)))) : Ev K B (tCB (rSum K) (tCons te tNil)) Γ H (.d (nD (sumN ns))) := fun σ H1 E e Q q =>
  h σ H1 E e _ fun v H2 e2 v2 => by
    obtain ⟨a, rfl, r⟩ := is_lD v2
    rw [nats_int] at r
    refine ⟨a, _, rfl, .inl (.inl r), ?_⟩
    rw [sum_int]
    exact q _ H2 e2 (.int _)
theorem cnt_cast (k : Nat) : ∀ ns : List Nat, (ns.map fun n : Nat => (n : Int)).count (k : Int) = ns.count k
  | [] => rfl
  | a :: l => by
    rw [List.map_cons, List.count_cons, List.count_cons, cnt_cast k l]
    by_cases h : a = k
    · subst h; simp
    · have : ¬ (a : Int) = (k : Int) := by omega
      simp [h, this]
theorem ev_count {ns : List Nat} {k : Nat} (h : Ev K B ta Γ H (.d (.list (ns.map nD)))) (hk : Ev K B tb Γ H (.d (nD k))) : Ev K B (tBM K "list" (rCntI K) ta (tCons tb tNil)) Γ H (.d (nD (ns.count k))) := fun σ H1 E e Q q =>
  h σ H1 E e _ fun v H2 e2 v2 => by
    obtain ⟨a, rfl, r⟩ := is_lD v2
    refine ⟨.inl ⟨rfl, _, .inl (.inl r)⟩, hk σ H2 (E.mono e2) (e.trans e2) _ fun y H3 e3 y3 => ?_⟩
    cases (show Is H3 y (.int (k : Int)) from y3)
    have r3 := e3.lst r (by rw [nats_int]; exact norow_ints _)
    rw [nats_int] at r3
    refine ⟨a, _, (k : Int), rfl, rfl, .inl (.inl r3), ?_⟩
    rw [cnt_cast]
    exact q _ H3 (e2.trans e3) (.int _)
end
end NB
set_option maxHeartbeats 4000000
/-! law: a pick of two drawn, known turns walked, undone -/
namespace NB
open PySem PySem.Spec PyProof.Rows L2
section
variable {P : Program} {w : World} {K : PySem.W.Frag} {mg : Str → Option Value} {base : Heap} {B : Tbs} {Γ : Ga} {σ : St} {H H' : Hp} {te ta tb : TE} {D : Ends} {tz : TS} {ds : List PyData} {R : PyData → Prop} {t u : List Nat}
theorem ep_pick2 {i : Nat} (hi : ROk K Γ i H) (ha : EvP K B ta Γ H R) (hb : EvP K B tb Γ H R) : EvP K B (tCall (spPick K B) [] E0 (tCons (tVar i) (tCons (tLst (tCons ta (tCons tb tNil))) tNil))) Γ H R := fun σ H1 E e Q q => by
  obtain ⟨a, s, ns, h2, h3⟩ := hi
  refine ⟨_, E.slot h2, ha σ H1 E e _ fun d1 v1 H2 r1 e2 i1 => hb σ H2 (E.mono e2) (e.trans e2) _ fun d2 v2 H3 r2 e3 i2 => ⟨lenline (by simp), fun p hp => ?_⟩⟩
  have e4 : Ex K B H3 (upd H3 p (.lst [v1, v2])) := Ex.new hp
  refine ⟨e4.tb (e3.tb (e2.tb E.tb)), a, s, ns, _, [d1, d2], rfl, (((e.trans e2).trans e3).trans e4).rw _ _ _ h3, .lst upd_same (norow_len (by simp)) (.cons (Is.mono e4 (Is.mono e3 i1)) (.cons (Is.mono e4 i2) .nil)), by simp, by simp, fun d v H5 hd e5 i5 => q d v H5 ?_ (((e2.trans e3).trans e4).trans e5) i5⟩
  rcases List.mem_cons.mp hd with z | z
  · rw [z]; exact r1
  · rw [List.mem_singleton.mp z]; exact r2
theorem FT.uniq {a : Addr} (h1 : FT H a t) (h2 : FT H a u) : t = u := by
  obtain ⟨o1, e1, _⟩ := h1
  obtain ⟨o2, e2, _⟩ := h2
  rw [e1] at e2
  have e3 := Option.some.inj e2
  injection e3 with _ e4
  injection e4 with e5
  exact inj_map (f := nV) (fun a b (e : V.int (a : Int) = V.int (b : Int)) => by injection e with e; omega) e5
open Classical in
noncomputable def tA (H : Hp) (a : Addr) : List Nat := if h : ∃ t, FT H a t then Classical.choose h else []
theorem tA_eq {a : Addr} (h : FT H a t) : tA H a = t := by
  have hx : ∃ t, FT H a t := ⟨t, h⟩
  unfold tA
  rw [dif_pos hx]
  exact (Classical.choose_spec hx).uniq h
theorem FTs.map_tA {as : List Addr} {ts : List (List Nat)} (h : FTs H as ts) : as.map (tA H) = ts := by
  induction h with
  | nil => rfl
  | cons a b ih => rw [List.map_cons, tA_eq a, ih]
theorem FTs.at {as : List Addr} {ts : List (List Nat)} (h : FTs H as ts) {a : Addr} (ha : a ∈ as) : ∃ t ∈ ts, FT H a t := by
  induction h with
  | nil => cases ha
  | cons x y ih =>
    rcases List.mem_cons.mp ha with z | z
    · exact ⟨_, List.mem_cons_self, by rw [z]; exact x⟩
    · obtain ⟨t, h1, h2⟩ := ih z
      exact ⟨t, List.mem_cons_of_mem _ h1, h2⟩
theorem FTs.len {as : List Addr} {ts : List (List Nat)} (h : FTs H as ts) : as.length = ts.length := by
  induction h with
  | nil => rfl
  | cons a b ih => simp [ih]
/-- the rule of pr_of for a def that is named with its data -/
theorem fk_of {x : Str} {st : Stmt} {N ps : List Str} {k : Nat} {sp : Sp} {f : Addr} {fd : FuncData} (F : FunD K x x (defArgs st) (defBody st) (defScope st) [] [] f fd) (S : FnScope N ps (defScope st)) (len : ∀ vs H Q E, sp vs H Q E → vs.length = ps.length)
    (hbody : ∀ (f : Addr) (cdv : Value) (A : Around) (outer : List PySem.Env) (s : Shared) (H : Hp) (vs : List V) (Q : VK) (E : XK), Room k (A.deeper (envOfC x (defScope st) s.heap.objs.size f cdv)) → sp vs H Q E →
      ∃ t, PSs (cxOf CX0 P w K mg base N x (defScope st) f cdv A outer s H E).nox (defBody st) t ∧ t { nx := fun _ H' => Q .non H', rt := Q } (L2.start N vs) H) : FnOk P w K mg base CX0 (k + 1) f fd ps sp :=
  F.ok S len fun cdv A outer s H vs Q E hr h => by
    obtain ⟨t, h2, h3⟩ := hbody f cdv A outer s H vs Q E hr h
    exact ⟨t, h2.nox, h3⟩
/-- [e for a turn in the known ones] -/
theorem en_lcF {i j : Nat} {p : Addr} {as : List Addr} {S : List (List Nat)} {val : List Nat → PyData} {G' : Addr → Ga} (hi : Γ[i]? = some (some (.r p))) (hp : H p = some (.lst (as.map V.ref))) (hf : FTs H as S) (hz : S.length < 999)
    (hg : ∀ a, G' a = (wipeG Γ [j]).set j (some (.r a))) (he : ∀ a, ∀ t ∈ S, FT H a t → Ev K B te (G' a) H (.d (val t)) ∧ lf (val t) = true) (hom : Hom fun d => ∃ t ∈ S, d = val t) : EvN K B (tLc (iList K (tVar i)) (gName j) tYes te [j]) Γ H (S.map val) := by
  have hl := hf.len
  have e : as.map (fun a => val (tA H a)) = S.map val := by
    rw [← hf.map_tA, List.map_map]
    rfl
  rw [← e]
  refine en_lcR (K := K) (B := B) hi hp (by omega) hg (fun a ha => ?_) ?_
  · obtain ⟨t, h1, h2⟩ := hf.at ha
    rw [tA_eq h2]
    exact he a t h1 h2
  · rcases hom with h | h
    · exact .inl fun d ⟨a, ha, ed⟩ => h d (by
        obtain ⟨t, h1, h2⟩ := hf.at ha
        exact ⟨t, h1, by rw [ed, tA_eq h2]⟩)
    · exact .inr fun d ⟨a, ha, ed⟩ => h d (by
        obtain ⟨t, h1, h2⟩ := hf.at ha
        exact ⟨t, h1, by rw [ed, tA_eq h2]⟩)
theorem ev_und {i n : Nat} {a : Addr} (hi : Γ[i]? = some (some (.r a))) (hf : FT H a t) (ht : IsTn n t) (n8 : n ≤ 8) : Ev K B (tCall (spU K B) [] E0 (tCons (tVar i) tNil)) Γ H (.d (tD (bck t))) := fun σ H1 E e Q q =>
  ⟨_, E.slot hi, E.tb, n, t, a, rfl, hf.keep e.fk, ht, n8, fun v H2 e2 i2 => q v H2 e2 i2⟩
theorem likes_len {n : Nat} {ts S : List Tn} (G : GOk n ts S) (ht : IsTn n t) (h5 : n ≤ 5 ∨ S.length ≤ 60) : (likesN S ts t).length ≤ 60 := by
  unfold likesN
  rw [(sortL_perm _).length_eq]
  exact Nat.le_trans (List.length_filter_le _ _) (orb_few G ht h5)
theorem likes_sz {n : Nat} {ts S : List Tn} (G : GOk n ts S) (ht : IsTn n t) : ∀ x ∈ likesN S ts t, x.length ≤ 900 := fun x hx => by
  obtain ⟨g, hg, rfl⟩ := (likes_mem G ht x).mp hx
  rw [(cnj_isTn (G.g.isT hg) ht).len]
  have := G.ho.n8
  omega
theorem fix_sz {n : Nat} (ht : IsTn n t) (n8 : n ≤ 8) : (fixT t).length ≤ 8 := by
  have := fixT_le t
  rw [ht.len] at this
  omega
theorem rings_sz {n : Nat} (ht : IsTn n t) (n8 : n ≤ 8) : (ringsT t).length ≤ 8 := by
  unfold ringsT
  rw [(sortN_perm _).length_eq, List.length_map]
  have := reps_len (rCy t) _ (List.range t.length) (Nat.le_refl _)
  have hl := ht.len
  rw [List.length_range] at this
  omega
/-- every due is some like -/
theorem en_dueS {n i j : Nat} {p : Addr} {as : List Addr} {ts S : List Tn} {Γ : Ga} {G' : Addr → Ga} {te : TE} (G : GOk n ts S) (h5 : n ≤ 5 ∨ S.length ≤ 60) (ht : IsTn n t) (hi : Γ[i]? = some (some (.r p))) (hp : H p = some (.lst (as.map V.ref))) (hf : FTs H as S)
    (hg : ∀ a, G' a = (wipeG Γ [j]).set j (some (.r a))) (he : ∀ a, ∀ g ∈ S, FT H a g → Ev K B te (G' a) H (.d (tD (cnj g t)))) :
    EvN K B (tCB (rSortedT K P w) (tCons (tCB (rSetT K P w) (tCons (tLc (iList K (tVar i)) (gName j) tYes te [j]) tNil)) tNil)) Γ H ((likesN S ts t).map tD) := by
  have sz := G.sz
  have isT : ∀ x ∈ S.map (fun g => cnj g t), IsTn n x := fun x hx => by
    obtain ⟨g, h1, rfl⟩ := List.mem_map.mp hx
    exact cnj_isTn (G.g.isT h1) ht
  refine en_due (K := K) (B := B) (ks := S.map fun g => cnj g t) (d := n) (Bn := n) ((en_lcF (K := K) (B := B) (val := fun g => tD (cnj g t)) hi hp hf (by omega) hg (fun a g h1 h2 => ⟨he a g h1 h2, lf_tD _⟩) (hom_tup fun d ⟨x, _, e⟩ => ⟨_, e⟩)).to (by rw [List.map_map]; rfl)) (fun L hL hs => ?_) (fun x hx => (isT x hx).len) G.ho.n1 (fun x hx a ha => (isT x hx).mem.mp ha) (likes_strict (n := n)) fun x => ?_
  · have q := nd_len L (orbC S t) hL fun x hx => dd_mem.mpr (hs x hx)
    have := orb_few G ht h5
    omega
  · rw [likes_mem G ht, List.mem_map]
end
end NB
set_option maxHeartbeats 16000000
/-! law says True -/
namespace NB
open PySem PySem.Spec PyProof.Rows L2
section
variable {P : Program} {w : World} {K : PySem.W.Frag} {mg : Str → Option Value} {base : Heap} {B : Tbs}
theorem fn_law {f0 : Addr} {fd0 : FuncData} (F : FunD K "law" "law" (defArgs s_law) (defBody s_law) (defScope s_law) [] [] f0 fd0) (G : Bl mg) (d1 : PLHouse P w K mg base B) (d2 : PLMem P w K mg base B) (d3 : Pr P w K mg base 6 "_law_alike" ["_law_found", "_law_due"] (spD K B (CAl 4)))
    (d4 : Pr P w K mg base 11 "members" ["house"] (spD K B CMems)) (d5 : Pr P w K mg base 11 "order" ["house"] (spD K B COrd)) (d6 : PLParts P w K mg base B) (d7 : Pr P w K mg base 11 "parts" ["house"] (spD K B CParts)) (d8 : Pr P w K mg base 11 "is_transitive" ["house"] (spD K B CTrans))
    (d9 : Pr P w K mg base 11 "rank" ["house"] (spD K B fun ds d => ∃ n ts, ds = [hD n ts] ∧ d = nD (rankN n ts) ∧ HOkN n ts)) (d10 : PLPairs P w K mg base B) (d11 : PPick P w K mg base B) (d12 : PLTurn P w K mg base B) (d13 : Pr P w K mg base 11 "is_member" ["house", "turn"] (spD K B CIsM))
    (d14 : Pr P w K mg base 11 "stayers" ["house", "turn"] (spD K B CStay)) (d15 : Pr P w K mg base 11 "rings" ["house", "turn"] (spD K B CRins)) (d16 : PLStay P w K mg base B) (d17 : PLRings P w K mg base B) (d18 : PLThen P w K mg base B) (d19 : PUnd P w K mg base B) (d20 : Pr P w K mg base 11 "likes" ["house", "turn"] (spD K B CLik))
    (d21 : Pr P w K mg base 11 "table" ["house"] (spD K B CTabl)) (d22 : PTak P w K mg base B) (d23 : Pr P w K mg base 11 "made" ["house", "row"] (spD K B CMade)) : FnOk P w K mg base CX0 13 f0 fd0 ["_law_script"] (spLaw K B) := by
  refine fk_of F sc_law (fun vs H Q E ⟨_, s, ns, h, _⟩ => by rw [h]; rfl) fun f cdv A outer s0 H vs Q E hr h => ⟨_, (wt_law G d1 d2 d3 d4 d5 d6 d7 d8 d9 d10 d11 d12 d13 d14 d15 d16 d17 d18 d19 d20 d21 d22 d23 hr).2, ?_⟩
  obtain ⟨tb, s, ns, rfl, hs, k⟩ := h
  have E0 := env_start2 (N := N_law) [.r s] tb (.cons rfl .nil) (Nat.le_of_ble_eq_true rfl)
  unfold wt_law
  dsimp only [List.map]
  refine q_row (K := K) (B := B) (i := 1) E0 (E0.slot (i := 0) rfl) hs (Int.le_refl 0) fun p H1 e1 hR E1 => ?_
  refine q_asgH (K := K) (i := 2) (j := 1) E1 rfl hR fun n ts v2 H2 hd e2 E2 => ?_
  obtain ⟨S, hG, h5⟩ := drawn_gok hd
  have ho := hG.ho
  have n8 := ho.n8
  have sz := hG.sz
  have hR2 := e2.rw _ _ _ hR
  refine q_two (K := K) (i := 3) (j := 4) (d1 := nD n) (d2 := .tuple (ts.map tD)) E2 (ev_var (i := 2) (s := .d (hD n ts)) rfl) fun v3 v4 H3 e3 i3 i4 E3 => ?_
  have hR3 := e3.rw _ _ _ hR2
  refine q_asgW (K := K) (i := 5) (n := n) (ts := ts) (S := S) E3 (ea2 (ev_var (i := 4) rfl) (ev_var (i := 3) rfl)) hG fun pw as H4 hpw e4 hw fts E4 => ?_
  have hR4 := e4.rw _ _ _ hR3
  have hwL : ∀ {H5 : Hp}, Ex K B H4 H5 → Is H5 (.ref pw) (.list (S.map tD)) := fun e5 => Is.mono e5 (.lst hw (norow_as as) fts.is)
  have lS := len_le hG
  -- members, order
  refine q_no (K := K) (B := B) E4 (et_alike (d := .list [.tuple (S.map tD), nD S.length]) (EvN.ev (en_lst (ds := [.tuple (S.map tD), nD S.length]) (ea2 (ev_call (ds := [hD n ts]) (ea1 (ev_var (i := 2) rfl)) ⟨n, ts, S, rfl, rfl, hG⟩) (ev_call (ds := [hD n ts]) (ea1 (ev_var (i := 2) rfl)) ⟨n, ts, S, rfl, rfl, hG⟩)) (Nat.le_of_ble_eq_true rfl)) rfl)
    (EvN.ev (en_lst (ds := [.tuple (S.map tD), nD S.length]) (ea2 (ev_tupL (ev_varR (i := 5) rfl (hwL (Ex.refl K H4)))) ((ev_len (ev_varR (i := 5) rfl (hwL (Ex.refl K H4)))).to (by rw [List.length_map]))) (Nat.le_of_ble_eq_true rfl)) rfl) (ad_lst (Nat.le_of_ble_eq_true rfl) (all2 (ad_tDs 1 (by omega) lS) (ad_int 3 _)))) fun H5 e5 E5 => ?_
  -- lots
  refine q_asgN (K := K) (i := 6) (ds := (partsN n ts).map tD) E5 (en_call (ds := [hD n ts]) (ea1 (ev_var (i := 2) rfl)) ⟨n, ts, rfl, rfl, ho⟩) fun pl us6 H6 hpl e6 h6 i6 E6 => ?_
  have hlL : ∀ {H7 : Hp}, Ex K B H6 H7 → Is H7 (.ref pl) (.list ((partsN n ts).map tD)) := fun e => Is.mono e (.lst h6 (norow_of i6 (row_tD _)) i6)
  have e46 := e5.trans e6
  have pz : (partsN n ts).length ≤ 8 := by
    unfold partsN
    rw [(sortL_perm _).length_eq, List.length_map]
    have := reps_len (rRT (leadH ts)) _ (List.range n) (Nat.le_refl _)
    rw [List.length_range] at this
    omega
  have pzz : ∀ t ∈ partsN n ts, t.length ≤ 900 := fun t ht => by
    have h1 := (sortL_perm _).mem_iff.mp ht
    obtain ⟨x, _, rfl⟩ := List.mem_map.mp h1
    rw [(sortN_perm _).length_eq]
    have := List.length_filter_le (rRT (leadH ts) x) (List.range n)
    rw [List.length_range] at this
    unfold cls
    omega
  -- told
  refine q_asgN (K := K) (i := 7) (ds := [.tuple ((partsN n ts).map tD), .bool (decide ((partsN n ts).length = 1)), nD (rankN n ts)]) E6 (en_lst (ds := [.tuple ((partsN n ts).map tD), .bool (decide ((partsN n ts).length = 1)), nD (rankN n ts)]) (ea3 (ev_call (ds := [hD n ts]) (ea1 (ev_var (i := 2) rfl)) ⟨n, ts, rfl, rfl, ho⟩) (ev_call (ds := [hD n ts]) (ea1 (ev_var (i := 2) rfl)) ⟨n, ts, rfl, rfl, ho⟩) (ev_call (ds := [hD n ts]) (ea1 (ev_var (i := 2) rfl)) ⟨n, ts, rfl, rfl, ho⟩)) (Nat.le_of_ble_eq_true rfl)) fun pt us7 H7 hpt e7 h7 i7 E7 => ?_
  have told7 : Is H7 (.ref pt) (.list [.tuple ((partsN n ts).map tD), .bool (decide ((partsN n ts).length = 1)), nD (rankN n ts)]) := .lst h7 (norow_of i7 rfl) i7
  refine q_no (K := K) (B := B) E7 (et_alike (d := .list [.tuple ((partsN n ts).map tD), .bool (decide ((partsN n ts).length = 1)), nD (rankN n ts)]) (ev_varR (i := 7) rfl told7)
    (EvN.ev (en_lst (ds := [.tuple ((partsN n ts).map tD), .bool (decide ((partsN n ts).length = 1)), nD (rankN n ts)]) (ea3 (ev_tupL (ev_varR (i := 6) rfl (hlL e7))) (ev_op ((ev_len (ev_varR (i := 6) rfl (hlL e7))).to (e := nD (partsN n ts).length) (by rw [List.length_map])) (ev_int (i := 1)) (o_eqN (j := 1))) (ev_rankL (ev_var (i := 2) rfl) ho)) (Nat.le_of_ble_eq_true rfl)) rfl) (ad_lst (Nat.le_of_ble_eq_true rfl) (all3 (ad_tDs 1 (by omega) pzz) (ad_bl 3 _) (ad_int 3 _)))) fun H8 e8 E8 => ?_
  have e48 := (e46.trans e7).trans e8
  have hR8 := e48.rw _ _ _ hR4
  have hn1 := ho.n1
  have hwL8 : ∀ {H9 : Hp}, Ex K B H8 H9 → Is H9 (.ref pw) (.list (S.map tD)) := fun e => hwL (e48.trans e)
  have hlL8 : ∀ {H9 : Hp}, Ex K B H8 H9 → Is H9 (.ref pl) (.list ((partsN n ts).map tD)) := fun e => hlL ((e7.trans e8).trans e)
  have hw8 := e48.lst hw (norow_as as)
  have fts8 := fts.keep e48.fk
  have nrS : S.map tD ≠ [] := fun z => by
    have := hG.g.one
    rw [List.map_eq_nil_iff.mp z] at this
    cases this
  -- some
  refine q_asgP (K := K) (B := B) (i := 8) (R := fun d => ∃ t, IsTn n t ∧ d = tD t) E8 (ep_pick2 (i := 1) ⟨p, s, ns, rfl, hR8⟩ (ep_turn (i := 1) ⟨p, s, ns, rfl, hR8⟩ (ev_var (i := 3) rfl) n8) (EvP.imp (ep_pick (i := 1) (ds := S.map tD) ⟨p, s, ns, rfl, hR8⟩ (ev_varR (i := 5) rfl (hwL8 (Ex.refl K H8))) nrS (by rw [List.length_map]; omega)) fun d hd => ?_)) fun d8 v8 H9 ⟨so, hso, ed8⟩ e9 iv8 E9 => ?_
  · obtain ⟨t, ht, rfl⟩ := List.mem_map.mp hd
    exact ⟨t, hG.g.isT ht, rfl⟩
  subst ed8
  -- is_member
  refine q_no (K := K) (B := B) E9 (et_alike (d := .bool (decide (so ∈ S))) (ev_call (ds := [hD n ts, tD so]) (ea2 (ev_var (i := 2) rfl) (ev_var (i := 8) rfl)) ⟨n, ts, S, so, rfl, rfl, hG, hso⟩) ((ev_op (ev_var (i := 8) (s := .d (tD so)) rfl) (ev_varR (i := 5) rfl (hwL8 e9)) (o_inD ((shp_tD _).ok (by decide)) ((shp_lT _).ok (by decide)))).to (by rw [any_tD])) (ad_bl 4 _)) fun H10 e10 E10 => ?_
  -- stayers, rings
  refine q_asgN (K := K) (i := 7) (ds := [tD (fixT so), tD (ringsT so)]) E10 (en_lst (ds := [tD (fixT so), tD (ringsT so)]) (ea2 (ev_call (ds := [hD n ts, tD so]) (ea2 (ev_var (i := 2) rfl) (ev_var (i := 8) rfl)) ⟨n, ts, so, rfl, rfl, ho, hso⟩) (ev_call (ds := [hD n ts, tD so]) (ea2 (ev_var (i := 2) rfl) (ev_var (i := 8) rfl)) ⟨n, ts, so, rfl, rfl, ho, hso⟩)) (Nat.le_of_ble_eq_true rfl)) fun pt2 us11 H11 hpt2 e11 h11 i11 E11 => ?_
  have told11 : Is H11 (.ref pt2) (.list [tD (fixT so), tD (ringsT so)]) := .lst h11 (norow_of i11 rfl) i11
  have fz := fix_sz hso n8
  have rz := rings_sz hso n8
  refine q_no (K := K) (B := B) E11 (et_alike (d := .list [tD (fixT so), tD (ringsT so)]) (ev_varR (i := 7) rfl told11)
    (EvN.ev (en_lst (ds := [tD (fixT so), tD (ringsT so)]) (ea2 (ev_call (ds := [tD so]) (ea1 (ev_var (i := 8) rfl)) ⟨n, so, rfl, rfl, hso, n8⟩) (ev_tupN (en_call (ds := [tD so]) (ea1 (ev_var (i := 8) rfl)) ⟨n, so, rfl, rfl, hso, n8⟩) (row_nD _))) (Nat.le_of_ble_eq_true rfl)) rfl) (ad_lst (Nat.le_of_ble_eq_true rfl) (all2 (ad_tD 2 (by omega)) (ad_tD 2 (by omega))))) fun H12 e12 E12 => ?_
  have e812 := ((e9.trans e10).trans e11).trans e12
  -- due
  refine q_asgN (K := K) (i := 9) (ds := (likesN S ts so).map tD) E12 (en_dueS (K := K) (B := B) (i := 5) (j := 14) hG h5 hso rfl (e812.lst hw8 (norow_as as)) (fts8.keep e812.fk) (fun a => rfl) fun a g hg hfa => ?_) fun pd us13 H13 hpd e13 h13 i13 E13 => ?_
  · have gt := hG.g.isT hg
    exact (ev_call (ds := [tD (thn (bck g) so), tD g]) (ea2 (ev_call (ds := [tD (bck g), tD so]) (ea2 (ev_und (i := 14) rfl hfa gt n8) (ev_var (i := 8) rfl)) ⟨n, _, _, rfl, rfl, isTn_bck gt, hso, n8⟩) (ev_varR (i := 14) rfl hfa.is)) ⟨n, _, _, rfl, rfl, (isTn_bck gt).thn hso, gt, n8⟩).to (e := tD (cnj g so)) rfl
  have L13 : Lo H13 pd ((likesN S ts so).map tD) := ⟨us13, h13, i13⟩
  have lz := likes_len hG hso h5
  refine q_no (K := K) (B := B) E13 (et_alike (d := .tuple ((likesN S ts so).map tD)) (ev_call (ds := [hD n ts, tD so]) (ea2 (ev_var (i := 2) rfl) (ev_var (i := 8) rfl)) ⟨n, ts, S, so, rfl, rfl, hG, hso⟩) (ev_tupL (ev_varL (i := 9) rfl L13 (row_tD _))) (ad_tDs 2 (by omega) (likes_sz hG hso))) fun H14 e14 E14 => ?_
  have e814 := (e812.trans e13).trans e14
  -- counts
  refine q_asgN (K := K) (i := 10) (ds := (S.map fun g => (fixT g).length).map nD) E14 ((en_lcY (enc := tD) (xs := S) (val := fun g => nD (fixT g).length) (src_L (ev_varR (i := 5) rfl (hwL8 e814))) (by omega) (fun g _ => tgt_name (j := 15) (wipe1 15)) (fun g hg => ⟨(ev_lenT (ds := (fixT g).map nD) (ev_call (ds := [tD g]) (ea1 (ev_var (i := 15) rfl)) ⟨n, g, rfl, rfl, hG.g.isT hg, n8⟩)).to (by rw [List.length_map]), rfl⟩) (hom_int fun d ⟨x, _, e⟩ => ⟨_, e⟩)).to (by rw [List.map_map]; rfl)) fun pc us15 H15 hpc e15 h15 i15 E15 => ?_
  have L15 : Lo H15 pc ((S.map fun g => (fixT g).length).map nD) := ⟨us15, h15, i15⟩
  have e815 := e814.trans e15
  have cv : ∀ {Γ : Ga} {H9 : Hp}, Γ[10]? = some (some (.r pc)) → Ex K B H15 H9 → Ev K B (tVar 10) Γ H9 (.d (.list ((S.map fun g => (fixT g).length).map nD))) := fun h e => ev_varL (i := 10) h (L15.mono (row_nD _) e) (row_nD _)
  -- table
  refine q_no (K := K) (B := B) E15 (et_alike (d := tD (cntT n S)) (ev_call (ds := [hD n ts]) (ea1 (ev_var (i := 2) rfl)) ⟨n, ts, S, rfl, rfl, hG⟩)
    ((ev_tupN (ds := (cntT n S).map nD) ((en_lcY (enc := nD) (xs := List.range (n + 1)) (val := fun m => nD ((S.map fun g => (fixT g).length).count m)) (src_R (n := n + 1) (ev_op (ev_var (i := 3) (s := .d (nD n)) rfl) (ev_int (i := 1)) o_I0) (by omega)) (by rw [List.length_range]; omega) (fun m _ => tgt_name (j := 16) (wipe1 16)) (fun m hm => ⟨ev_count (cv rfl (Ex.refl K H15)) (ev_var (i := 16) rfl), rfl⟩) (hom_int fun d ⟨x, _, e⟩ => ⟨_, e⟩)).to (by unfold cntT; rw [List.map_map]; rfl)) (row_nD _)).to (e := tD (cntT n S)) rfl) (ad_tD 3 (by unfold cntT; rw [List.length_map, List.length_range]; omega))) fun H16 e16 E16 => ?_
  -- sums
  refine q_no (K := K) (B := B) E16 (et_or (a := false) (b := false)
    ((et_test (ev_op (ev_sumL (cv rfl e16)) (ev_op ((ev_len (ev_varR (i := 5) rfl (hwL8 (e815.trans e16)))).to (e := nD S.length) (by rw [List.length_map])) ((ev_len (ev_varR (i := 6) rfl (hlL8 (e815.trans e16)))).to (e := nD (partsN n ts).length) (by rw [List.length_map])) (o_mulN (by omega))) o_neN)).to (by rw [burn1 hG]; simp)) fun _ =>
    ((et_test (ev_op (ev_sumN (ns := S.map fun g => (fixT g).length * (fixT g).length) ((en_lcY (enc := nD) (xs := S.map fun g => (fixT g).length) (val := fun m => nD (m * m)) (src_L (cv rfl e16)) (by rw [List.length_map]; omega) (fun m _ => tgt_name (j := 16) (wipe1 16)) (fun m hm => ⟨ev_op (ev_var (i := 16) (s := .d (nD m)) rfl) (ev_var (i := 16) (s := .d (nD m)) rfl) (o_mulN ?_), rfl⟩) (hom_int fun d ⟨x, _, e⟩ => ⟨_, e⟩)).to (by rw [List.map_map, List.map_map]; rfl)))
      (ev_op ((ev_len (ev_varR (i := 5) rfl (hwL8 (e815.trans e16)))).to (e := nD S.length) (by rw [List.length_map])) (ev_call (ds := [hD n ts]) (ea1 (ev_var (i := 2) rfl)) ⟨n, ts, rfl, rfl, ho⟩) (o_mulN (by omega))) o_neN)).to (by rw [burn2 hG]; simp))) fun H17 e17 E17 => ?_
  · obtain ⟨g, hg, rfl⟩ := List.mem_map.mp hm
    have := fix_sz (hG.g.isT hg) n8
    omega
  have e817 := (e815.trans e16).trans e17
  have hR17 := e817.rw _ _ _ hR8
  have t1 := ho.t1
  have t6 := ho.t6
  -- line, now
  refine q_parPD (K := K) (B := B) (i := 11) (j := 12) (s := .d (tD (List.range n))) (R := fun d => ∃ row : List Nat, d = tD row ∧ (∀ l ∈ row, l < ts.length) ∧ row.length ≤ 100) E17
    (EvP.imp (ep_tupN (RL := fun ds => ds.length < 12 ∧ ∀ d ∈ ds, ∃ j, j < ts.length ∧ d = nD j) (en_lcP (j := 15) (Rm := fun m => m < 12) (R := fun d => ∃ j, j < ts.length ∧ d = nD j) (EvP.imp (ep_taken (i := 1) (m := 12) ⟨p, s, ns, rfl, hR17⟩ ev_int (by decide) (by decide)) fun d ⟨j, hj, e⟩ => ⟨j, e, hj⟩) (fun m hm => by omega) (fun i => tgt_name (j := 15) (wipe1 15)) (fun i => ep_taken (i := 1) (m := ts.length) ⟨p, s, ns, rfl, hR17⟩ ((ev_lenT (ds := ts.map tD) (ev_var (i := 4) rfl)).to (by rw [List.length_map])) (by omega) (by omega)) (fun d ⟨j, _, e⟩ => by rw [e]; rfl) (hom_int fun d ⟨j, _, e⟩ => ⟨_, e⟩)) fun ds h => hom_row (P := fun d => ∃ j, j < ts.length ∧ d = nD j) (hom_int fun d ⟨j, _, e⟩ => ⟨_, e⟩) h.2) fun d ⟨ds, ⟨h1, h2⟩, e⟩ => ?_)
    (fun H1 e1 => ev_tupRg (n := n) (ev_var (i := 3) rfl) (by omega)) fun d v11 u12 H18 ⟨row, ed, hl, hrz⟩ e18 E18 => ?_
  · have key : ∀ ds : List PyData, (∀ d ∈ ds, ∃ j, j < ts.length ∧ d = nD j) → ∃ row : List Nat, ds = row.map nD ∧ ∀ l ∈ row, l < ts.length := by
      intro ds
      induction ds with
      | nil => intro _; exact ⟨[], rfl, fun l hl => by cases hl⟩
      | cons x l ih =>
        intro h
        obtain ⟨row, h3, h4⟩ := ih fun d hd => h d (List.mem_cons_of_mem _ hd)
        obtain ⟨j, hj, e⟩ := h x List.mem_cons_self
        refine ⟨j :: row, by rw [h3, e]; rfl, fun l hl => ?_⟩
        rcases List.mem_cons.mp hl with z | z
        · rw [z]; exact hj
        · exact h4 l z
    obtain ⟨row, h3, h4⟩ := key ds h2
    refine ⟨row, by rw [e, h3]; rfl, h4, ?_⟩
    rw [h3, List.length_map] at h1
    omega
  subst ed
  -- for
  refine q_forT (K := K) (B := B) (ds := row.map nD) E18 (ev_var (i := 11) rfl) (lf_nats _) (fun i σ' H' => Ex K B H18 H' ∧ Env B σ' H' [some (.r s), some (.r p), some (.d (hD n ts)), some (.d (nD n)), some (.d (.tuple (ts.map tD))), some (.r pw), some (.r pl), some (.r pt2), some (.d (tD so)), some (.r pd), some (.r pc), some (.d (tD row)), some (.d (tD (mkT n ts (row.take i)))), none, none, none, none]) (fun H5 e5 E5 => ⟨e5, E5⟩) ?_ ?_
  · rintro i d v σ5 H5 hd iv ⟨e5, E5⟩
    rw [List.getElem?_map] at hd
    obtain ⟨l, hl', rfl⟩ := Option.map_eq_some_iff.mp hd
    have ll := hl l (List.mem_of_getElem? hl')
    have E6 := E5.set (i := 13) (s := .d (nD l)) iv
    have tk : mkT n ts (row.take (i + 1)) = thn (mkT n ts (row.take i)) (ts.getD l []) := foldl_take _ _ _ _ hl'
    refine s_asg (K := K) (i := 12) (s := .d (tD (mkT n ts (row.take (i + 1))))) E6 ((ev_call (ds := [tD (mkT n ts (row.take i)), tD (ts.getD l [])]) (ea2 (ev_var (i := 12) rfl) (ev_op (ev_var (i := 4) (s := .d (.tuple (ts.map tD))) rfl) (ev_var (i := 13) (s := .d (nD l)) rfl) (o_ixT (at_tD ll)))) ⟨n, _, _, rfl, rfl, mkT_isTn ho isTn_still fun x hx => hl x (List.mem_of_mem_take hx), ho.ok _ (getD_mem ll), n8⟩).to (by rw [tk])) fun v7 H7 e7 i7 E7 => ?_
    exact ⟨⟨e5.trans e7, E7.drop 13⟩, e7.tk⟩
  · rintro σ5 H5 ⟨e5, E5⟩
    rw [List.length_map, List.take_length] at E5
    have mz : (mkT n ts row).length ≤ 900 := by
      have q : (mkT n ts row).length = n := (mkT_isTn ho isTn_still hl).len
      omega
    refine s_ret (K := K) E5 (ev_call (ds := [tD (mkT n ts row), tD (mkT n ts row)]) (ea2 (ev_call (ds := [hD n ts, tD row]) (ea2 (ev_var (i := 2) rfl) (ev_var (i := 11) rfl)) ⟨n, ts, row, rfl, rfl, ho, hl, hrz⟩) (ev_var (i := 12) rfl)) ⟨_, rfl, rfl, ad_tD 3 mz⟩) fun v H6 e6 iv => ?_
    cases (show Is H6 v (.bool true) from iv)
    exact k H6
end
end NB
set_option maxHeartbeats 2000000
/-! the end: the facts of the top, the law's promise, the walk -/
namespace NB
open PySem PySem.Spec PyProof.Rows L2
def tbsK (K : PySem.W.Frag) : Tbs := ⟨(He.cT K ("is_turn", none)).2, (He.cT K ("wrong_part", none)).2, (He.cT K ("parts_of", none)).2, (He.cT K ("pair_lots_of", none)).2, (He.cT K ("likes_of", none)).2⟩
theorem neB_ne {a b : Nat} (h : neB a b = true) : a ≠ b := fun e => by
  have h2 : (!(Nat.beq a b)) = true := h
  rw [e, Nat.beq_refl] at h2
  cases h2
section
variable {P : Program} {w : World} {K : PySem.W.Frag} {h : Heap} {mg : Str → Option Value} {base : Heap}
theorem tbne_of (h : apart K = true) : TbNe (tbsK K) := by
  obtain ⟨h1, h⟩ := He.ba h
  obtain ⟨h2, h⟩ := He.ba h
  obtain ⟨h3, h⟩ := He.ba h
  obtain ⟨h4, h⟩ := He.ba h
  obtain ⟨h5, h⟩ := He.ba h
  obtain ⟨h6, h⟩ := He.ba h
  obtain ⟨h7, h⟩ := He.ba h
  obtain ⟨h8, h⟩ := He.ba h
  obtain ⟨h9, h10⟩ := He.ba h
  exact ⟨⟨neB_ne h1, neB_ne h2, neB_ne h3, neB_ne h4⟩, ⟨neB_ne h5, neB_ne h6, neB_ne h7⟩, ⟨neB_ne h8, neB_ne h9, neB_ne h10⟩⟩
theorem dd_of (X : K.In h) (G : h.Ns mainGlobals mg) (c : He.SaysD fa fn K) (i : Nat) {x : Str} {st : Stmt} (hd : fn[i]? = some (mkD x st) := by rfl) (hf : fa[i]? = some (.glo x) := by rfl) : Dd K mg x st := by
  obtain ⟨fd, F⟩ := c.def_ i (d := mkD x st) hd
  exact ⟨_, fd, He.glo_ok X G (c.fact i (f := .glo x) hf), F⟩
theorem ddT_of (X : K.In h) (G : h.Ns mainGlobals mg) (c : He.SaysD fa fn K) (i : Nat) {x : Str} {st : Stmt} (hd : fn[i]? = some (mkD x st) := by rfl) (hf : fa[i]? = some (.glo x) := by rfl) : DdT K mg x st (He.cT K (x, none)).1 := by
  obtain ⟨fd, F⟩ := c.def_ i (d := mkD x st) hd
  have F2 : FunD K x x (defArgs st) (defBody st) (defScope st) [] [] (He.fAd K (x, none)) fd := F
  obtain ⟨oc, od, dV, kV, doc, pm, an, cdv, ct, osl, rfl, lk, hcd, _, _⟩ := F2.ex
  obtain ⟨cc, rfl⟩ := He.codeIn_ref hcd
  have e : (He.cT K (x, none)).1 = cc := He.codeOf_eq lk rfl
  rw [e]
  exact ⟨_, oc, od, dV, kV, doc, pm, an, ct, osl, He.glo_ok X G (c.fact i (f := .glo x) hf), lk, hcd, F2.kp, F2⟩
theorem lots_at (X : K.In h) (G : h.Ns mainGlobals mg) (c : He.SaysD fa fn K) : ∃ (g : Addr) (oc : Value) (od : Option Addr) (dV kV doc pm cdv ct : Value) (an : Option Addr) (osl : Array (Option Value)), LotsAt K mg "lots_of" s_lots_of ["things", "leads"] g oc od dV kV doc pm cdv ct an osl := by
  obtain ⟨fd, F⟩ := c.def_ 13 (d := mkD "lots_of" s_lots_of) rfl
  have F2 : FunD K "lots_of" "lots_of" (defArgs s_lots_of) (defBody s_lots_of) (defScope s_lots_of) [] [] (He.fAd K ("lots_of", none)) fd := F
  have hb := F2.bindsN (ps := ["things", "leads"]) (b2 (x := "lots_of") (st := s_lots_of) (p := "things") (q := "leads") fun _ _ _ _ _ _ _ _ => rfl)
  obtain ⟨oc, od, dV, kV, doc, pm, an, cdv, ct, osl, rfl, lk, hcd, _, _⟩ := F2.ex
  exact ⟨_, oc, od, dV, kV, doc, pm, cdv, ct, an, osl, He.glo_ok X G (c.fact 13 (f := .glo "lots_of") rfl), F2.kp, lk, hcd, hb⟩
theorem bl_of (X : K.In h) (G : h.Ns mainGlobals mg) (c : He.SaysD fa fn K) : Bl mg :=
  ⟨He.free_ok X G (c.fact 44 (f := .free "isinstance") rfl), He.free_ok X G (c.fact 45 (f := .free "int") rfl), He.free_ok X G (c.fact 46 (f := .free "bool") rfl), He.free_ok X G (c.fact 47 (f := .free "tuple") rfl), He.free_ok X G (c.fact 48 (f := .free "list") rfl),
    He.free_ok X G (c.fact 49 (f := .free "range") rfl), He.free_ok X G (c.fact 50 (f := .free "len") rfl), He.free_ok X G (c.fact 51 (f := .free "all") rfl), He.free_ok X G (c.fact 52 (f := .free "sorted") rfl), He.free_ok X G (c.fact 53 (f := .free "enumerate") rfl),
    He.free_ok X G (c.fact 54 (f := .free "set") rfl), He.free_ok X G (c.fact 55 (f := .free "sum") rfl), He.free_ok X G (c.fact 56 (f := .free "str") rfl), He.int_ok X G (c.fact 57 (f := .int "MOST_HALLS" 8) rfl), He.int_ok X G (c.fact 58 (f := .int "MOST_TURNS" 6) rfl),
    He.int_ok X G (c.fact 59 (f := .int "MOST_MEMBERS" 5040) rfl), He.int_ok X G (c.fact 60 (f := .int "MOST_ROW" 100) rfl)⟩
theorem gx_tab {c P : Addr} (t : LamX.TabB base mg c P) : GxR.TabB base mg c P := ⟨t.code, t.bm, t.gP⟩
theorem law_ok (X : K.In h) (G : h.Ns mainGlobals mg) (c : He.SaysD fa fn K) (ne : TbNe (tbsK K)) (TB : ∀ p ∈ tf.map (He.cT K), LamX.TabB base mg p.1 p.2) {f : Addr} {fd : FuncData} (F : FunD K "law" "law" (defArgs s_law) (defBody s_law) (defScope s_law) [] [] f fd) :
    FnOk P w K mg base CX0 13 f fd ["_law_script"] (spLaw K (tbsK K)) := by
  have B := bl_of X G c
  have T : ∀ {q : He.Defn}, q ∈ tf → LamX.TabB base mg (He.cT K q).1 (He.cT K q).2 := fun hq => TB _ (List.mem_map.mpr ⟨_, hq, rfl⟩)
  have ti := gx_tab (T (q := ("is_turn", none)) (.head _))
  have tw := gx_tab (T (q := ("wrong_part", none)) (.tail _ (.head _)))
  have tpo := T (q := ("parts_of", none)) (.tail _ (.tail _ (.head _)))
  have tpl := T (q := ("pair_lots_of", none)) (.tail _ (.tail _ (.tail _ (.head _))))
  have tlk := T (q := ("likes_of", none)) (.tail _ (.tail _ (.tail _ (.tail _ (.head _)))))
  obtain ⟨g, oc, od, dV, kV, doc, pm, cdv, ct, an, osl, L⟩ := lots_at X G c
  have is_number := pr_is_number (P := P) (w := w) (base := base) (B := tbsK K) (dd_of X G c 0) B
  have is_turn := pr_is_turn (P := P) (w := w) (B := tbsK K) (ddT_of X G c 1) B ti ne is_number
  have wrong_part := pr_wrong_part (P := P) (w := w) (B := tbsK K) (ddT_of X G c 2) B tw ne is_number is_turn
  have need_house := pr_need_house (P := P) (w := w) (base := base) (B := tbsK K) (dd_of X G c 3) B wrong_part
  have need_turn := pr_need_turn (P := P) (w := w) (base := base) (B := tbsK K) (dd_of X G c 4) B is_turn
  have still := pr_still (P := P) (w := w) (base := base) (B := tbsK K) (dd_of X G c 5) B
  have then_ := pr_then (P := P) (w := w) (base := base) (B := tbsK K) (dd_of X G c 6) B
  have back := pr_back (P := P) (w := w) (base := base) (B := tbsK K) (dd_of X G c 7) B
  have members_of := pr_members_of (P := P) (w := w) (base := base) (B := tbsK K) (dd_of X G c 8) B still then_
  have members := pr_members (P := P) (w := w) (base := base) (B := tbsK K) (dd_of X G c 9) B need_house members_of
  have order := pr_order (P := P) (w := w) (base := base) (B := tbsK K) (dd_of X G c 10) B need_house members_of
  have is_member := pr_is_member (P := P) (w := w) (base := base) (B := tbsK K) (dd_of X G c 11) B need_house need_turn members_of
  have made := pr_made (P := P) (w := w) (base := base) (B := tbsK K) (dd_of X G c 12) B need_house is_number still then_
  have parts_of := pr_parts_of (P := P) (w := w) (B := tbsK K) (ddT_of X G c 14) B tpo ne L
  have parts := pr_parts (P := P) (w := w) (base := base) (B := tbsK K) (dd_of X G c 15) B need_house parts_of
  have is_transitive := pr_is_transitive (P := P) (w := w) (base := base) (B := tbsK K) (dd_of X G c 16) B need_house parts_of
  have pair_lots_of := pr_pair_lots_of (P := P) (w := w) (B := tbsK K) (ddT_of X G c 17) B tpl ne L
  have rank := pr_rank (P := P) (w := w) (base := base) (B := tbsK K) (dd_of X G c 18) B need_house pair_lots_of
  have likes_of := pr_likes_of (P := P) (w := w) (B := tbsK K) (ddT_of X G c 19) B tlk ne then_ back L
  have likes := pr_likes (P := P) (w := w) (base := base) (B := tbsK K) (dd_of X G c 20) B need_house need_turn likes_of
  have stayers_of := pr_stayers_of (P := P) (w := w) (base := base) (B := tbsK K) (dd_of X G c 21) B
  have stayers := pr_stayers (P := P) (w := w) (base := base) (B := tbsK K) (dd_of X G c 22) B need_house need_turn stayers_of
  have table_of := pr_table_of (P := P) (w := w) (base := base) (B := tbsK K) (dd_of X G c 23) B members_of stayers_of
  have table := pr_table (P := P) (w := w) (base := base) (B := tbsK K) (dd_of X G c 24) B need_house table_of
  have rings_of := pr_rings_of (P := P) (w := w) (base := base) (B := tbsK K) (dd_of X G c 25) B
  have rings := pr_rings (P := P) (w := w) (base := base) (B := tbsK K) (dd_of X G c 26) B need_house need_turn rings_of
  have taken := pr_law_taken (P := P) (w := w) (base := base) (B := tbsK K) (dd_of X G c 27) B
  have pick := pr_law_pick (P := P) (w := w) (base := base) (B := tbsK K) (dd_of X G c 28) B taken
  have alike := pr_law_alike (P := P) (w := w) (base := base) (B := tbsK K) (dd_of X G c 29) B 4
  have turn := pr_law_turn (P := P) (w := w) (base := base) (B := tbsK K) (dd_of X G c 30) B taken
  have circle := pr_law_circle (P := P) (w := w) (base := base) (B := tbsK K) (dd_of X G c 31) B
  have lmembers := pr_law_members (P := P) (w := w) (base := base) (B := tbsK K) (dd_of X G c 32) B
  have known := pr_law_known (P := P) (w := w) (base := base) (B := tbsK K) (dd_of X G c 33) B circle
  have mixed := pr_law_mixed (P := P) (w := w) (base := base) (B := tbsK K) (dd_of X G c 34) B turn
  have whole := pr_law_whole (P := P) (w := w) (base := base) (B := tbsK K) (dd_of X G c 35) B mixed pick known
  have house := pr_law_house (P := P) (w := w) (base := base) (B := tbsK K) (dd_of X G c 36) B taken whole turn
  have lstayers := pr_law_stayers (P := P) (w := w) (base := base) (B := tbsK K) (dd_of X G c 37) B
  have lundone := pr_law_undone (P := P) (w := w) (base := base) (B := tbsK K) (dd_of X G c 38) B
  have lthen := pr_law_then (P := P) (w := w) (base := base) (B := tbsK K) (dd_of X G c 39) B
  have lpairs := pr_law_pairs (P := P) (w := w) (base := base) (B := tbsK K) (dd_of X G c 40) B
  have lparts := pr_law_parts (P := P) (w := w) (base := base) (B := tbsK K) (dd_of X G c 41) B lpairs
  have lrings := pr_law_rings (P := P) (w := w) (base := base) (B := tbsK K) (dd_of X G c 42) B
  exact fn_law F B house lmembers alike members order lparts parts is_transitive rank lpairs pick turn is_member stayers rings lstayers lrings lthen lundone likes table taken made
theorem tbok_of {H : Hp} (hT : ∀ p ∈ tf.map (He.cT K), H p.2 = some (.tbl #[])) : TbOk (tbsK K) H := by
  have T : ∀ {q : He.Defn}, q ∈ tf → H (He.cT K q).2 = some (.tbl #[]) := fun hq => hT _ (List.mem_map.mpr ⟨_, hq, rfl⟩)
  have g : ∀ {Pt : Addr}, H Pt = some (.tbl #[]) → GxR.TabG H Pt := fun h => ⟨#[], h, trivial⟩
  have s : ∀ {Pt : Addr} {q : Str}, H Pt = some (.tbl #[]) → LamX.TabS H Pt q := fun h => ⟨#[], h, trivial, fun pos cv hc => by cases hc⟩
  exact ⟨g (T (q := ("is_turn", none)) (.head _)), g (T (q := ("wrong_part", none)) (.tail _ (.head _))), s (T (q := ("parts_of", none)) (.tail _ (.tail _ (.head _)))), s (T (q := ("pair_lots_of", none)) (.tail _ (.tail _ (.tail _ (.head _))))), s (T (q := ("likes_of", none)) (.tail _ (.tail _ (.tail _ (.tail _ (.head _))))))⟩
theorem lawAt {f : Addr} (X : K.In h) (G : h.Ns mainGlobals mg) (hfa : mg ("law" : Str) = some (.ref f)) (c : He.SaysX fa fn [] tf apart w h K) : LamX.LawAtS PySem.Challenge.rw_nobodystays_k01_whole_groups w K CX0 13 63 "_law_script" mg f h := by
  obtain ⟨fd, F⟩ := c.t.d.def_ 43 (d := mkD "law" s_law) rfl
  have e := hfa.symm.trans (He.glo_ok X G (c.t.d.fact 43 (f := .glo "law") rfl))
  cases e
  have F2 : FunD K "law" "law" (defArgs s_law) (defBody s_law) (defScope s_law) [] [] (He.ga K "law") fd := F
  have hb := F2.bindsA (ps := ["_law_script"]) (b1 (x := "law") (st := s_law) (p := "_law_script") fun _ _ _ _ _ _ _ => rfl)
  refine ⟨fd, tf.map (He.cT K), spLaw K (tbsK K), fun p hp => ?_, fun p hp => ?_, fun p hp => ?_, fun s u => hb s [u] rfl, fun H a ns _ _ hT hS => ⟨tbok_of hT, a, ns, rfl, hS, fun _ => rfl⟩, fun base _ _ TB => law_ok X G c.t.d (tbne_of c.more) TB F2⟩
  · obtain ⟨q, hq, rfl⟩ := List.mem_map.mp hp
    exact c.empty q hq
  · obtain ⟨q, hq, rfl⟩ := List.mem_map.mp hp
    exact c.out q hq
  · obtain ⟨q, hq, rfl⟩ := List.mem_map.mp hp
    exact PySem.W.codeHd_of_K X (c.hd q hq)
end
end NB
set_option maxHeartbeats 0
open PySem PySem.W PySem.Calls PyProof.Rows
theorem PySem.Challenge.cw_nobodystays_k01_whole_groups_holds : PySem.Challenge.rw_nobodystays_k01_whole_groups.Holds := by
  w_on; o_law
  refine HandSHeadRun.head_any (r := OpenLaw.row PySem.Challenge.rw_nobodystays_k01_whole_groups) (q := view (OpenLaw.row PySem.Challenge.rw_nobodystays_k01_whole_groups).prog [56]) (H := NB.hk) (ob := NB.ob) (M := 6000) (loose := NB.loose) (d := HandSHeadRun.topDef (OpenLaw.row PySem.Challenge.rw_nobodystays_k01_whole_groups).prog 56) (kwd := []) NB.ob_eq
    (by kernel_rfl) (fun s => by kernel_rfl) NB.run (by kernel_rfl) (by kernel_rfl) (by kernel_rfl) (by rfl) (by first | assumption | decide +kernel) (by decide +kernel) ⟨rfl, rfl, rfl, rfl, rfl, by decide +kernel⟩ ?hw ?hc
  case hw => w_witness2
  case hc =>
    refine LamX.walk_ofTsE (l := PySem.Challenge.rw_nobodystays_k01_whole_groups) (n := 63) (k := 13) (x := "_law_script") (CX := fun _ => L2.CX0) rfl (by decide) (by kernel_rfl) ⟨rfl, by decide, by decide⟩ ?F (fun _ _ _ _ _ z => z)
    intro w mg fa h Y G hmg0
    obtain ⟨K, KX, c⟩ := Y
    have hmg : mg ("law" : PySem.Str) = some (.ref fa) := by
      have e : (HandSHeadRun.topDef (OpenLaw.row PySem.Challenge.rw_nobodystays_k01_whole_groups).prog 56).name = ("law" : PySem.Str) := by kernel_rfl
      rw [← e]
      exact hmg0
    exact ⟨K, KX, NB.lawAt KX G hmg c⟩
